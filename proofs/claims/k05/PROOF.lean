import PyProof.Rows.All
import Wide.All
import OpenK.AllK
import Wide.FinOn
import HandS.ForMost
import HandS.ForExc
import HandS.IsInst
import HandS.Wide
import HandS.Deep
import HandS.DictComp
import HandS.Flow
import HandS.CallSlots
import HandS.ExcCtx
import HandS.Style
import HandS.SortInts
import HandS.More
import HandS.Defaults
import HandS.HeadHook2
import HandS.HeadEnd
import HandS.Head2
import HandS.WideBits
import HandS.HeadHook3
import HandS.ExcInit
import HandS.TryOnly
import HandS.Words
import HandS.Head0
import HandS.Head1
import HandS.HeadHook1
import HandS.Keys
import HandS.ExcIs
import HandS.ExcValue
import HandS.Conv
import PyProof.Rows.SortShellAny
import PyProof.EqAt
import PyProof.EqKinds
import PyProof.TupleCall
import HandS.Base
import HandS.Call
import HandS.List
import HandS.Dict
import HandS.SetFor
import HandS.Strs
import PyProof.Rows.Digits
import PyProof.ReprRoads
import PyProof.ReprBulk
import HandS.Hot
import HandS.HotCalls
import PyProof.ListStr
import HandS.Zip
import KE.KDictPairs
import HandS.FStr
import HandS.Text
import Lean
import KE.KStateDown
import PySem.Challenge.RW_wornsigns_k05_steps_one_by_one
set_option Elab.async false
set_option linter.all false
set_option maxRecDepth 100000
namespace VL
open PySem L2

abbrev St := L2.St
abbrev D := PyData
abbrev Fg := PySem.W.Frag

def Ext (H H' : Hp) : Prop := ∀ a o, H a = some o → H' a = some o
theorem Ext.refl (H : Hp) : Ext H H := fun _ _ h => h
theorem Ext.trans {H H1 H2 : Hp} (a : Ext H H1) (b : Ext H1 H2) : Ext H H2 := fun x o h => b x o (a x o h)
theorem Ext.none_of {H H' : Hp} (e : Ext H H') {a : Addr} (h : H' a = none) : H a = none := by
  cases q : H a with
  | none => rfl
  | some o => rw [e a o q] at h; cases h
theorem Ext.new {H : Hp} {p : Addr} {o : HO} (h : H p = none) : Ext H (upd H p o) := fun a u e => by
  rw [upd_ne (ne_of_none e h)]; exact e
theorem Ext.rd {H H' : Hp} {a : Addr} {u : HO} (e : Ext H H') (h : Rd H a u) : Rd H' a u := by
  rcases h with h | ⟨o, h⟩
  · exact .inl (e a _ h)
  · exact .inr ⟨o, e a _ h⟩
theorem Ext.sqL {K : Fg} {H H' : Hp} {a : Addr} {xs : List V} (e : Ext H H') (h : SqL K H a xs) : SqL K H' a xs := by
  rcases h with h | h
  · exact .inl (e.rd h)
  · exact .inr h
theorem Ext.sqT {K : Fg} {H H' : Hp} {a : Addr} {xs : List V} (e : Ext H H') (h : SqT K H a xs) : SqT K H' a xs := by
  rcases h with h | h
  · exact .inl (e.rd h)
  · exact .inr h

def kD : Key → D
  | .inl i => .int i
  | .inr x => .str x

mutual
inductive Rep (K : Fg) (H : Hp) : V → D → Prop
  | non : Rep K H .non .none
  | bl (b : Bool) : Rep K H (.bl b) (.bool b)
  | int (i : Int) : Rep K H (.int i) (.int i)
  | str (x : Str) : Rep K H (.str x) (.str x)
  | lst {a : Addr} {xs : List V} {ds : List D} : H a = some (.lst xs) → Reps K H xs ds → Rep K H (.ref a) (.list ds)
  | tup {a : Addr} {xs : List V} {ds : List D} : H a = some (.tup xs) → Reps K H xs ds → Rep K H (.ref a) (.tuple ds)
  | dct {a : Addr} {kvs : List (Key × V)} {ps : List (D × D)} : Rd H a (.dK kvs) → RepKV K H kvs ps → Rep K H (.ref a) (.dict ps)
inductive Reps (K : Fg) (H : Hp) : List V → List D → Prop
  | nil : Reps K H [] []
  | cons {v : V} {vs : List V} {d : D} {ds : List D} : Rep K H v d → Reps K H vs ds → Reps K H (v :: vs) (d :: ds)
inductive RepKV (K : Fg) (H : Hp) : List (Key × V) → List (D × D) → Prop
  | nil : RepKV K H [] []
  | cons {k : Key} {v : V} {kvs : List (Key × V)} {d : D} {ps : List (D × D)} : Rep K H v d → RepKV K H kvs ps → RepKV K H ((k, v) :: kvs) ((kD k, d) :: ps)
end

section
variable {K : Fg} {H H' : Hp}
mutual
theorem Rep.mono (e : Ext H H') : ∀ {v : V} {d : D}, Rep K H v d → Rep K H' v d
  | _, _, .non => .non
  | _, _, .bl b => .bl b
  | _, _, .int i => .int i
  | _, _, .str x => .str x
  | _, _, .lst h r => .lst (e _ _ h) (Reps.mono e r)
  | _, _, .tup h r => .tup (e _ _ h) (Reps.mono e r)
  | _, _, .dct h r => .dct (e.rd h) (RepKV.mono e r)
theorem Reps.mono (e : Ext H H') : ∀ {vs : List V} {ds : List D}, Reps K H vs ds → Reps K H' vs ds
  | _, _, .nil => .nil
  | _, _, .cons h r => .cons (Rep.mono e h) (Reps.mono e r)
theorem RepKV.mono (e : Ext H H') : ∀ {kvs : List (Key × V)} {ps : List (D × D)}, RepKV K H kvs ps → RepKV K H' kvs ps
  | _, _, .nil => .nil
  | _, _, .cons h r => .cons (Rep.mono e h) (RepKV.mono e r)
end
theorem Reps.length : ∀ {vs : List V} {ds : List D}, Reps K H vs ds → vs.length = ds.length
  | _, _, .nil => rfl
  | _, _, .cons _ r => congrArg (· + 1) (Reps.length r)
theorem Reps.get : ∀ {vs : List V} {ds : List D} {i : Nat} {d : D}, Reps K H vs ds → ds[i]? = some d → ∃ v, vs[i]? = some v ∧ Rep K H v d
  | _, _, _, _, .nil, e => by simp at e
  | _, _, 0, _, .cons h _, e => by simp at e; subst e; exact ⟨_, rfl, h⟩
  | _, _, i + 1, d, .cons _ r, e => by
    obtain ⟨v, h1, h2⟩ := Reps.get (i := i) (d := d) r (by simpa using e)
    exact ⟨v, by simpa using h1, h2⟩
theorem Reps.get' : ∀ {vs : List V} {ds : List D} {i : Nat} {v : V}, Reps K H vs ds → vs[i]? = some v → ∃ d, ds[i]? = some d ∧ Rep K H v d
  | _, _, _, _, .nil, e => by simp at e
  | _, _, 0, _, .cons h _, e => by simp at e; subst e; exact ⟨_, rfl, h⟩
  | _, _, i + 1, d, .cons _ r, e => by
    obtain ⟨v, h1, h2⟩ := Reps.get' (i := i) (v := d) r (by simpa using e)
    exact ⟨v, by simpa using h1, h2⟩
theorem Reps.append : ∀ {vs ws : List V} {ds es : List D}, Reps K H vs ds → Reps K H ws es → Reps K H (vs ++ ws) (ds ++ es)
  | _, _, _, _, .nil, s => s
  | _, _, _, _, .cons h r, s => .cons h (Reps.append r s)
theorem Reps.one {v : V} {d : D} (h : Rep K H v d) : Reps K H [v] [d] := .cons h .nil
theorem Reps.take : ∀ {vs : List V} {ds : List D} (n : Nat), Reps K H vs ds → Reps K H (vs.take n) (ds.take n)
  | _, _, 0, _ => .nil
  | _, _, _ + 1, .nil => .nil
  | _, _, n + 1, .cons h r => .cons h (Reps.take n r)
theorem Reps.drop : ∀ {vs : List V} {ds : List D} (n : Nat), Reps K H vs ds → Reps K H (vs.drop n) (ds.drop n)
  | _, _, 0, r => r
  | _, _, _ + 1, .nil => .nil
  | _, _, n + 1, .cons _ r => Reps.drop n r
theorem Reps.reverse : ∀ {vs : List V} {ds : List D}, Reps K H vs ds → Reps K H vs.reverse ds.reverse
  | _, _, .nil => .nil
  | _, _, .cons h r => by
    rw [List.reverse_cons, List.reverse_cons]
    exact (Reps.reverse r).append (.one h)
theorem Reps.set {v : V} {d : D} (h : Rep K H v d) : ∀ {vs : List V} {ds : List D} (i : Nat), Reps K H vs ds → Reps K H (vs.set i v) (ds.set i d)
  | _, _, _, .nil => .nil
  | _, _, 0, .cons _ r => .cons h r
  | _, _, i + 1, .cons q r => .cons q (Reps.set h i r)
theorem Reps.eraseIdx : ∀ {vs : List V} {ds : List D} (i : Nat), Reps K H vs ds → Reps K H (vs.eraseIdx i) (ds.eraseIdx i)
  | _, _, _, .nil => .nil
  | _, _, 0, .cons _ r => r
  | _, _, i + 1, .cons q r => .cons q (Reps.eraseIdx i r)
theorem Reps.dropLast {vs : List V} {ds : List D} (r : Reps K H vs ds) : Reps K H vs.dropLast ds.dropLast := by
  rw [List.dropLast_eq_take, List.dropLast_eq_take, r.length]
  exact r.take _
theorem Reps.repl {vs : List V} {ds : List D} (r : Reps K H vs ds) : ∀ k : Nat, Reps K H (List.replicate k vs).flatten (List.replicate k ds).flatten
  | 0 => .nil
  | k + 1 => by
    rw [List.replicate_succ, List.replicate_succ, List.flatten_cons, List.flatten_cons]
    exact r.append (Reps.repl r k)
end

inductive Sl where
  | no
  | sh (d : D)
  | ow (d : D)
  | io (d : D)
  | op (t : Nat) (d : D)
  /-- two things handed in together (in a promise alone, no slot is one) -/
  | two (a b : Sl)
abbrev Ev := List Sl

def swp (H : Hp) (a : Addr) (o : HO) : Hp := fun b => if b = a then (H a).map (fun _ => o) else H b
theorem swp_ne {H : Hp} {a b : Addr} {o : HO} (h : b ≠ a) : swp H a o b = H b := if_neg h
theorem swp_at {H : Hp} {a : Addr} {o u : HO} (h : H a = some u) : swp H a o a = some o := by
  unfold swp
  rw [if_pos rfl, h]; rfl
theorem swp_none {H : Hp} {a : Addr} {o : HO} (h : H a = none) : swp H a o a = none := by
  unfold swp
  rw [if_pos rfl, h]; rfl
theorem swp_some {H : Hp} {a b : Addr} {o v : HO} (h : swp H a o b = some v) : (b = a ∧ v = o ∧ ∃ u, H a = some u) ∨ (b ≠ a ∧ H b = some v) := by
  by_cases z : b = a
  · subst z
    unfold swp at h
    rw [if_pos rfl] at h
    cases e : H b with
    | none => rw [e] at h; cases h
    | some u => rw [e] at h; cases h; exact .inl ⟨rfl, rfl, u, rfl⟩
  · rw [swp_ne z] at h
    exact .inr ⟨z, h⟩
def Dual (kvs : List (Key × V)) (u u' : HO) : Prop := (u = .dK kvs ∨ ∃ od, u = .frz od (.dK kvs)) ∧ (u' = .dK kvs ∨ ∃ od, u' = .frz od (.dK kvs))
section
variable {K : Fg} {Hi H : Hp} {a : Addr} {u u' : HO} {kvs : List (Key × V)}
theorem Rd.swp {b : Addr} {ks : List (Key × V)} (ha : Hi a = some u) (d : Dual kvs u u') (h : Rd Hi b (.dK ks)) : Rd (swp Hi a u') b (.dK ks) := by
  by_cases z : b = a
  · subst z
    have e : kvs = ks := by
      rcases h with h | ⟨o, h⟩ <;> rcases d.1 with d1 | ⟨od, d1⟩ <;> rw [ha, d1] at h <;> cases h <;> rfl
    subst e
    rcases d.2 with d2 | ⟨od, d2⟩
    · exact .inl (by rw [swp_at ha, d2])
    · exact .inr ⟨od, by rw [swp_at ha, d2]⟩
  · rcases h with h | ⟨o, h⟩
    · exact .inl (by rw [swp_ne z]; exact h)
    · exact .inr ⟨o, by rw [swp_ne z]; exact h⟩
theorem swp_lst {b : Addr} {xs : List V} (ha : Hi a = some u) (d : Dual kvs u u') (h : Hi b = some (.lst xs)) : swp Hi a u' b = some (.lst xs) := by
  have : b ≠ a := fun z => by
    subst z
    rcases d.1 with d1 | ⟨od, d1⟩ <;> rw [ha, d1] at h <;> cases h
  rw [swp_ne this]; exact h
theorem swp_tup {b : Addr} {xs : List V} (ha : Hi a = some u) (d : Dual kvs u u') (h : Hi b = some (.tup xs)) : swp Hi a u' b = some (.tup xs) := by
  have : b ≠ a := fun z => by
    subst z
    rcases d.1 with d1 | ⟨od, d1⟩ <;> rw [ha, d1] at h <;> cases h
  rw [swp_ne this]; exact h
mutual
theorem Rep.swp (ha : Hi a = some u) (e : Dual kvs u u') : ∀ {v : V} {d : D}, Rep K Hi v d → Rep K (swp Hi a u') v d
  | _, _, .non => .non
  | _, _, .bl b => .bl b
  | _, _, .int i => .int i
  | _, _, .str x => .str x
  | _, _, .lst h r => .lst (swp_lst ha e h) (Reps.swp ha e r)
  | _, _, .tup h r => .tup (swp_tup ha e h) (Reps.swp ha e r)
  | _, _, .dct h r => .dct (Rd.swp ha e h) (RepKV.swp ha e r)
theorem Reps.swp (ha : Hi a = some u) (e : Dual kvs u u') : ∀ {vs : List V} {ds : List D}, Reps K Hi vs ds → Reps K (swp Hi a u') vs ds
  | _, _, .nil => .nil
  | _, _, .cons h r => .cons (Rep.swp ha e h) (Reps.swp ha e r)
theorem RepKV.swp (ha : Hi a = some u) (e : Dual kvs u u') : ∀ {ks : List (Key × V)} {ps : List (D × D)}, RepKV K Hi ks ps → RepKV K (swp Hi a u') ks ps
  | _, _, .nil => .nil
  | _, _, .cons h r => .cons (Rep.swp ha e h) (RepKV.swp ha e r)
end
end
structure OpSem where
  ok : Nat → D → Hp → Hp → Addr → List Addr → Prop
  loc : ∀ {t d Hi Hi' H H' p fp}, ok t d Hi H p fp → Ext Hi Hi' → (∀ a ∈ fp, H' a = H a) → ok t d Hi' H' p fp
  trk : ∀ {t d Hi H p fp}, ok t d Hi H p fp → ∀ a ∈ fp, ∃ o, H a = some o
  /-- a dict's cell is locked, opened -/
  swp : ∀ {t d Hi H p fp a u u' kvs}, ok t d Hi H p fp → Hi a = some u → Dual kvs u u' → (∀ b ∈ fp, b ≠ a) → ok t d (swp Hi a u') (swp H a u') p fp
  /-- a thing made in this def has its kind + 10 -/
  hnd : ∀ {t d Hi H p fp}, ok t d Hi H p fp ↔ ok (t % 10) d Hi H p fp

structure Gb where
  K : Fg
  Op : OpSem
  ca : Str → Addr
structure Exn where
  name : Str
  idx : Option V
def Gb.xr (G : Gb) (x : Exn) (c : Value) (d : Option Addr) (Hi : Hp) : Prop :=
  c = .ref (G.ca x.name) ∧ match x.idx with
    | none => d = none
    | some v => ∃ dx, d = some dx ∧ Hi dx = some (.xd [(("index" : Str), v)])
theorem xr_none {G : Gb} {x : Exn} {c : Value} {d : Option Addr} {Hi Hi' : Hp} (h : x.idx = none) (hx : G.xr x c d Hi) : G.xr x c d Hi' := by
  obtain ⟨h1, h2⟩ := hx
  rw [h] at h2
  exact ⟨h1, by rw [h]; exact h2⟩
structure Cf where
  H0 : Hp
  I0 : Hp
  io : Addr → Prop
  iot : ∀ a, io a → H0 a ≠ none
  /-- where the opaque thing of a kind stands, if it was handed in -/
  pa : Nat → Option Addr

inductive Own (K : Fg) (Hi H : Hp) : Addr → D → Prop
  | lst {p : Addr} {xs : List V} {ds : List D} : H p = some (.lst xs) → Reps K Hi xs ds → Own K Hi H p (.list ds)
  | dct {p : Addr} {kvs : List (Key × V)} {ps : List (D × D)} : H p = some (.dK kvs) → RepKV K Hi kvs ps → Own K Hi H p (.dict ps)
theorem Own.trk {K : Fg} {Hi H : Hp} {p : Addr} {d : D} (h : Own K Hi H p d) : ∃ o, H p = some o := by
  cases h with
  | lst h _ => exact ⟨_, h⟩
  | dct h _ => exact ⟨_, h⟩
theorem Own.to {K : Fg} {Hi Hi' H H' : Hp} {p : Addr} {d : D} (h : Own K Hi H p d) (e : Ext Hi Hi') (k : H' p = H p) : Own K Hi' H' p d := by
  cases h with
  | lst h r => exact .lst (by rw [k]; exact h) (r.mono e)
  | dct h r => exact .dct (by rw [k]; exact h) (r.mono e)
theorem Own.rep {K : Fg} {Hi H : Hp} {p : Addr} {d : D} {o : HO} (h : Own K Hi H p d) (ho : H p = some o) (hn : Hi p = none) : Rep K (upd Hi p o) (.ref p) d := by
  cases h with
  | lst h r => rw [ho] at h; cases h; exact .lst upd_same (r.mono (Ext.new hn))
  | dct h r => rw [ho] at h; cases h; exact .dct (.inl upd_same) (r.mono (Ext.new hn))

def SlOk (G : Gb) (C : Cf) (Hi H : Hp) (x : Option V) (fp : List Addr) : Sl → Prop
  | .no => fp = []
  | .sh d => fp = [] ∧ ∃ v, x = some v ∧ Rep G.K Hi v d
  | .ow d => ∃ p, fp = [p] ∧ x = some (.ref p) ∧ Own G.K Hi H p d ∧ C.H0 p = none
  | .io d => ∃ p, fp = [p] ∧ x = some (.ref p) ∧ Own G.K Hi H p d ∧ C.io p ∧ ∀ q, C.pa 100 = some q → p = q
  | .op t d => ∃ p, x = some (.ref p) ∧ G.Op.ok t d Hi H p fp ∧ (∀ a ∈ fp, C.H0 a = none ∨ (t < 10 ∧ C.io a)) ∧ ∀ q, t < 10 → C.pa t = some q → p = q
  | .two _ _ => False

structure Core (G : Gb) (C : Cf) (Hi : Hp) (σ : St) (H : Hp) (Γ : Ev) (fp : Nat → List Addr) : Prop where
  frame : ∀ a o, C.H0 a = some o → ¬ C.io a → H a = some o
  live : ∀ a, C.H0 a ≠ none → H a ≠ none
  imm : Ext Hi H
  base : Ext C.I0 Hi
  ov : ∀ a o, Hi a = some o → C.I0 a = some o ∨ C.H0 a = none
  len : Γ.length = σ.length
  sl : ∀ i s, Γ[i]? = some s → ∃ x, σ[i]? = some x ∧ SlOk G C Hi H x (fp i) s
  dj : ∀ i j a, i < Γ.length → j < Γ.length → a ∈ fp i → a ∈ fp j → i = j
  av : ∀ i a, i < Γ.length → a ∈ fp i → Hi a = none
def Rel (G : Gb) (C : Cf) (Hi : Hp) (σ : St) (H : Hp) (Γ : Ev) : Prop := ∃ fp, Core G C Hi σ H Γ fp

section
variable {G : Gb} {C : Cf} {Hi Hi' H H' : Hp} {σ : St} {Γ : Ev} {fp : Nat → List Addr}
theorem SlOk.to {x : Option V} {l : List Addr} {s : Sl} (h : SlOk G C Hi H x l s) (e : Ext Hi Hi') (k : ∀ a ∈ l, H' a = H a) : SlOk G C Hi' H' x l s := by
  cases s with
  | no => exact h
  | sh d => obtain ⟨h0, v, h1, h2⟩ := h; exact ⟨h0, v, h1, h2.mono e⟩
  | ow d => obtain ⟨p, h0, h1, h2, h3⟩ := h; exact ⟨p, h0, h1, h2.to e (k p (by rw [h0]; simp)), h3⟩
  | io d => obtain ⟨p, h0, h1, h2, h3⟩ := h; exact ⟨p, h0, h1, h2.to e (k p (by rw [h0]; simp)), h3⟩
  | op t d => obtain ⟨p, h1, h2, h3⟩ := h; exact ⟨p, h1, G.Op.loc h2 e k, h3⟩
  | two a b => exact h.elim
theorem SlOk.trk {x : Option V} {l : List Addr} {s : Sl} (h : SlOk G C Hi H x l s) : ∀ a ∈ l, ∃ o, H a = some o := by
  cases s with
  | no => intro a ha; rw [show l = [] from h] at ha; cases ha
  | sh d => obtain ⟨h0, _⟩ := h; intro a ha; rw [h0] at ha; cases ha
  | ow d =>
    obtain ⟨p, h0, h1, h2, _⟩ := h; intro a ha
    rw [h0] at ha
    have : a = p := by simpa using ha
    subst this; exact h2.trk
  | io d =>
    obtain ⟨p, h0, h1, h2, _⟩ := h; intro a ha
    rw [h0] at ha
    have : a = p := by simpa using ha
    subst this; exact h2.trk
  | op t d => obtain ⟨p, h1, h2, _⟩ := h; exact G.Op.trk h2
  | two a b => exact h.elim
theorem SlOk.home {x : Option V} {l : List Addr} {s : Sl} (h : SlOk G C Hi H x l s) : ∀ a ∈ l, C.H0 a = none ∨ C.io a := by
  cases s with
  | no => intro a ha; rw [show l = [] from h] at ha; cases ha
  | sh d => obtain ⟨h0, _⟩ := h; intro a ha; rw [h0] at ha; cases ha
  | ow d =>
    obtain ⟨p, h0, h1, h2, h3⟩ := h; intro a ha
    rw [h0] at ha
    have : a = p := by simpa using ha
    subst this; exact .inl h3
  | io d =>
    obtain ⟨p, h0, h1, h2, h3⟩ := h; intro a ha
    rw [h0] at ha
    have : a = p := by simpa using ha
    subst this; exact .inr h3.1
  | op t d => obtain ⟨p, h1, h2, h3, _⟩ := h; exact fun a ha => (h3 a ha).imp id (·.2)
  | two a b => exact h.elim
theorem Core.trk (c : Core G C Hi σ H Γ fp) {i : Nat} {a : Addr} (hi : i < Γ.length) (ha : a ∈ fp i) : ∃ o, H a = some o := by
  obtain ⟨x, _, h⟩ := c.sl i _ (List.getElem?_eq_getElem hi)
  exact h.trk a ha
theorem Core.home (c : Core G C Hi σ H Γ fp) {i : Nat} {a : Addr} (hi : i < Γ.length) (ha : a ∈ fp i) : C.H0 a = none ∨ C.io a := by
  obtain ⟨x, _, h⟩ := c.sl i _ (List.getElem?_eq_getElem hi)
  exact h.home a ha
theorem Core.fresh (c : Core G C Hi σ H Γ fp) {p : Addr} (h : H p = none) : Hi p = none ∧ C.H0 p = none := by
  refine ⟨c.imm.none_of h, ?_⟩
  cases q : C.H0 p with
  | none => rfl
  | some o => exact absurd h (c.live p (by rw [q]; simp))
theorem Core.step {H' : Hp} {i : Nat} {x : Option V} {l : List Addr} {s : Sl} (c : Core G C Hi σ H Γ fp) (hi : i < Γ.length) (e : Ext Hi Hi')
    (k : ∀ a o, H a = some o → a ∉ fp i → H' a = some o) (lv : ∀ a, a ∈ fp i → H' a ≠ none) (im : Ext Hi' H') (ov : ∀ a o, Hi' a = some o → Hi a = some o ∨ C.H0 a = none)
    (sok : SlOk G C Hi' H' x l s) (nw : ∀ a ∈ l, Hi' a = none ∧ ∀ j, j < Γ.length → j ≠ i → a ∉ fp j) (no : ∀ j a, j < Γ.length → j ≠ i → a ∈ fp j → Hi' a = none) :
    Core G C Hi' (σ.set i x) H' (Γ.set i s) (fun j => if j = i then l else fp j) where
  frame := fun a o h n => by
    refine k a o (c.frame a o h n) fun ha => ?_
    rcases c.home hi ha with q | q
    · rw [h] at q; cases q
    · exact n q
  live := fun a h => by
    by_cases ha : a ∈ fp i
    · exact lv a ha
    · have := c.live a h
      cases q : H a with
      | none => exact absurd q this
      | some o => rw [k a o q ha]; simp
  imm := im
  base := c.base.trans e
  ov := fun a o h => by
    rcases ov a o h with q | q
    · exact c.ov a o q
    · exact .inr q
  len := by rw [List.length_set, List.length_set]; exact c.len
  sl := fun j s' h => by
    have hi' : i < σ.length := by rw [← c.len]; exact hi
    by_cases hj : j = i
    · subst hj
      rw [List.getElem?_set_self hi] at h
      cases h
      exact ⟨x, List.getElem?_set_self hi', by rw [if_pos rfl]; exact sok⟩
    · rw [List.getElem?_set_ne (Ne.symm hj)] at h
      obtain ⟨y, h1, h2⟩ := c.sl j s' h
      refine ⟨y, by rw [List.getElem?_set_ne (Ne.symm hj)]; exact h1, ?_⟩
      rw [if_neg hj]
      have hjl : j < Γ.length := (List.getElem?_eq_some_iff.mp h).1
      refine h2.to e fun a ha => ?_
      obtain ⟨o, ho⟩ := h2.trk a ha
      rw [ho]
      exact k a o ho fun z => hj (c.dj j i a hjl hi ha z)
  dj := fun j m a hj hm h1 h2 => by
    rw [List.length_set] at hj hm
    by_cases ej : j = i <;> by_cases em : m = i
    · rw [ej, em]
    · rw [if_pos ej] at h1; rw [if_neg em] at h2
      exact absurd h2 ((nw a h1).2 m hm em)
    · rw [if_neg ej] at h1; rw [if_pos em] at h2
      exact absurd h1 ((nw a h2).2 j hj ej)
    · rw [if_neg ej] at h1; rw [if_neg em] at h2
      exact c.dj j m a hj hm h1 h2
  av := fun j a hj h => by
    rw [List.length_set] at hj
    by_cases ej : j = i
    · rw [if_pos ej] at h; exact (nw a h).1
    · rw [if_neg ej] at h; exact no j a hj ej h
theorem Core.put {i : Nat} {x : Option V} {l : List Addr} {s : Sl} (c : Core G C Hi σ H Γ fp) (hi : i < Γ.length) (sok : SlOk G C Hi H x l s)
    (nw : ∀ a ∈ l, Hi a = none ∧ ∀ j, j < Γ.length → j ≠ i → a ∉ fp j) : Core G C Hi (σ.set i x) H (Γ.set i s) (fun j => if j = i then l else fp j) :=
  c.step hi (Ext.refl _) (fun _ _ h _ => h) (fun a ha => by obtain ⟨o, h⟩ := c.trk hi ha; rw [h]; simp) c.imm (fun _ _ h => .inl h) sok nw fun j a hj _ h => c.av j a hj h
theorem Rel.put_sh {i : Nat} {v : V} {d : D} (c : Rel G C Hi σ H Γ) (hi : i < Γ.length) (r : Rep G.K Hi v d) : Rel G C Hi (σ.set i (some v)) H (Γ.set i (.sh d)) :=
  let ⟨_, c⟩ := c
  ⟨_, c.put (l := []) hi ⟨rfl, v, rfl, r⟩ fun a ha => nomatch ha⟩
theorem Rel.put_no {i : Nat} {x : Option V} (c : Rel G C Hi σ H Γ) (hi : i < Γ.length) : Rel G C Hi (σ.set i x) H (Γ.set i .no) :=
  let ⟨_, c⟩ := c
  ⟨_, c.put (l := []) hi rfl fun a ha => nomatch ha⟩
theorem Core.push {x : Option V} {l : List Addr} {s : Sl} (c : Core G C Hi σ H Γ fp) (k : Ext H H') (sok : SlOk G C Hi H' x l s) (nw : ∀ a ∈ l, H a = none) :
    Core G C Hi (σ ++ [x]) H' (Γ ++ [s]) (fun j => if j = Γ.length then l else fp j) where
  frame := fun a o h n => k a o (c.frame a o h n)
  live := fun a h => by
    cases q : H a with
    | none => exact absurd q (c.live a h)
    | some o => rw [k a o q]; simp
  imm := c.imm.trans k
  base := c.base
  ov := c.ov
  len := by simp [c.len]
  sl := fun j s' h => by
    by_cases hj : j < Γ.length
    · rw [List.getElem?_append_left hj] at h
      obtain ⟨y, h1, h2⟩ := c.sl j s' h
      refine ⟨y, by rw [List.getElem?_append_left (by rw [← c.len]; exact hj)]; exact h1, ?_⟩
      rw [if_neg (Nat.ne_of_lt hj)]
      refine h2.to (Ext.refl _) fun a ha => ?_
      obtain ⟨o, ho⟩ := h2.trk a ha
      rw [ho]; exact k a o ho
    · rw [List.getElem?_append_right (Nat.le_of_not_lt hj)] at h
      have hj0 : j - Γ.length = 0 := by
        have := (List.getElem?_eq_some_iff.mp h).1
        simp at this; omega
      rw [hj0] at h
      simp at h; subst h
      have : j = Γ.length := by omega
      subst this
      refine ⟨x, by rw [c.len]; simp, ?_⟩
      rw [if_pos rfl]; exact sok
  dj := fun j m a hj hm h1 h2 => by
    simp at hj hm
    by_cases ej : j = Γ.length <;> by_cases em : m = Γ.length
    · rw [ej, em]
    · rw [if_pos ej] at h1; rw [if_neg em] at h2
      obtain ⟨o, ho⟩ := c.trk (show m < Γ.length by omega) h2
      rw [nw a h1] at ho; cases ho
    · rw [if_neg ej] at h1; rw [if_pos em] at h2
      obtain ⟨o, ho⟩ := c.trk (show j < Γ.length by omega) h1
      rw [nw a h2] at ho; cases ho
    · rw [if_neg ej] at h1; rw [if_neg em] at h2
      exact c.dj j m a (by omega) (by omega) h1 h2
  av := fun j a hj h => by
    simp at hj
    by_cases ej : j = Γ.length
    · rw [if_pos ej] at h; exact c.imm.none_of (nw a h)
    · rw [if_neg ej] at h; exact c.av j a (by omega) h
theorem Rel.alloc {p : Addr} {o : HO} {d : D} (c : Rel G C Hi σ H Γ) (hp : H p = none) (ow : Own G.K Hi (upd H p o) p d) : Rel G C Hi (σ ++ [some (.ref p)]) (upd H p o) (Γ ++ [.ow d]) :=
  let ⟨_, c⟩ := c
  ⟨_, c.push (l := [p]) (Ext.new hp) ⟨p, rfl, rfl, ow, (c.fresh hp).2⟩ fun a ha => by
    have : a = p := by simpa using ha
    rw [this]; exact hp⟩
theorem Rel.trunc {σ2 : St} {Γ2 : Ev} (c : Rel G C Hi (σ ++ σ2) H (Γ ++ Γ2)) (hl : Γ.length = σ.length) : Rel G C Hi σ H Γ := by
  obtain ⟨fp, c⟩ := c
  refine ⟨fp, c.frame, c.live, c.imm, c.base, c.ov, hl, fun j s h => ?_, fun i j a hi hj => c.dj i j a (by simp; omega) (by simp; omega), fun i a hi => c.av i a (by simp; omega)⟩
  have hj : j < Γ.length := (List.getElem?_eq_some_iff.mp h).1
  obtain ⟨x, h1, h2⟩ := c.sl j s (by rw [List.getElem?_append_left hj]; exact h)
  exact ⟨x, by rw [List.getElem?_append_left (by omega)] at h1; exact h1, h2⟩
theorem Rel.freeze {i : Nat} {d : D} (c : Rel G C Hi σ H Γ) (h : Γ[i]? = some (.ow d)) : ∃ Hi', Ext Hi Hi' ∧ Rel G C Hi' σ H (Γ.set i (.sh d)) := by
  obtain ⟨fp, c⟩ := c
  obtain ⟨x, hx, p, hf, e, ow, h0⟩ := c.sl i _ h
  have hi : i < Γ.length := (List.getElem?_eq_some_iff.mp h).1
  have hin : Hi p = none := c.av i p hi (by rw [hf]; simp)
  obtain ⟨o, ho⟩ := ow.trk
  have ex : Ext Hi (upd Hi p o) := Ext.new hin
  refine ⟨upd Hi p o, ex, ?_⟩
  have hs : σ.set i x = σ := by
    obtain ⟨hl, e1⟩ := List.getElem?_eq_some_iff.mp hx
    rw [← e1]; exact List.set_getElem_self hl
  have st := c.step (H' := H) (Hi' := upd Hi p o) (x := x) (l := []) (s := .sh d) hi ex (fun a o' h _ => h) (fun a ha => by obtain ⟨o', h'⟩ := c.trk hi ha; rw [h']; simp)
    (fun a u hu => by
      by_cases ha : a = p
      · subst ha; rw [upd_same] at hu; cases hu; exact ho
      · rw [upd_ne ha] at hu; exact c.imm a u hu)
    (fun a u hu => by
      by_cases ha : a = p
      · subst ha; exact .inr h0
      · rw [upd_ne ha] at hu; exact .inl hu)
    ⟨rfl, .ref p, e, ow.rep ho hin⟩ (fun a ha => nomatch ha)
    (fun j a hj hne ha => by
      have : a ≠ p := fun z => hne (c.dj j i a hj hi ha (by rw [hf, z]; simp))
      rw [upd_ne this]; exact c.av j a hj ha)
  rw [hs] at st
  exact ⟨_, st⟩
end

inductive R where
  | sh (d : D)
  | ow (d : D)
  | vr (i : Nat)
  | op (t : Nat) (d : D)
def rdW (r : R) (Γ : Ev) (k : D → Prop) : Prop := match r with
  | .sh d => k d
  | .ow d => k d
  | .vr i => match Γ[i]? with
    | some (.sh d) => k d
    | some (.ow d) => k d
    | some (.io d) => k d
    | _ => False
  | .op _ _ => False
def frW (r : R) (Γ : Ev) (k : D → Ev → Prop) : Prop := match r with
  | .sh d => k d Γ
  | .ow d => k d Γ
  | .vr i => match Γ[i]? with
    | some (.sh d) => k d Γ
    | some (.ow d) => k d (Γ.set i (.sh d))
    | _ => False
  | .op _ _ => False
abbrev XW := Exn → Ev → Prop
abbrev WE := Ev → (R → Ev → Prop) → XW → Prop
abbrev WT := Ev → (Bool → Ev → Prop) → XW → Prop
abbrev WA := Ev → (List R → Ev → Prop) → XW → Prop
structure WD where
  nx : Ev → Prop
  rt : R → Ev → Prop
  bk : Ev → Prop
  ct : Ev → Prop
abbrev WS := Ev → WD → XW → Prop

def Out (G : Gb) (C : Cf) (Hi : Hp) (σ : St) (H : Hp) (Γ : Ev) (v : V) : R → Prop
  | .sh d => Rel G C Hi σ H Γ ∧ Rep G.K Hi v d
  | .ow d => Γ.length = σ.length ∧ Rel G C Hi (σ ++ [some v]) H (Γ ++ [.ow d])
  | .vr i => Rel G C Hi σ H Γ ∧ σ[i]? = some (some v)
  | .op t d => Γ.length = σ.length ∧ Rel G C Hi (σ ++ [some v]) H (Γ ++ [.op t d])
def Hold (G : Gb) (Hi : Hp) (σ : St) (v : V) : R → Prop
  | .sh d => Rep G.K Hi v d
  | .ow d => Rep G.K Hi v d
  | .vr i => σ[i]? = some (some v)
  | .op _ _ => True
def Rdb (K : Fg) (Hi H : Hp) (v : V) (d : D) : Prop := Rep K Hi v d ∨ ∃ p, v = .ref p ∧ Own K Hi H p d

section
variable {G : Gb} {C : Cf} {Hi Hi' H H' : Hp} {σ : St} {Γ : Ev} {v : V} {r : R}
theorem Rel.len (c : Rel G C Hi σ H Γ) : Γ.length = σ.length := let ⟨_, c⟩ := c; c.len
theorem Rel.imm (c : Rel G C Hi σ H Γ) : Ext Hi H := let ⟨_, c⟩ := c; c.imm
theorem Hold.mono (h : Hold G Hi σ v r) (e : Ext Hi Hi') : Hold G Hi' σ v r := by
  cases r with
  | sh d => exact Rep.mono e h
  | ow d => exact Rep.mono e h
  | vr i => exact h
  | op t d => trivial
theorem Rel.settle {d : D} (hl : Γ.length = σ.length) (c : Rel G C Hi (σ ++ [some v]) H (Γ ++ [.ow d])) : ∃ Hi', Ext Hi Hi' ∧ Rel G C Hi' σ H Γ ∧ Rep G.K Hi' v d := by
  obtain ⟨Hi', e, c'⟩ := Rel.freeze (i := Γ.length) (d := d) c (by simp)
  have e1 : (Γ ++ [Sl.ow d]).set Γ.length (.sh d) = Γ ++ [.sh d] := by simp
  rw [e1] at c'
  refine ⟨Hi', e, c'.trunc hl, ?_⟩
  obtain ⟨fp, c'⟩ := c'
  obtain ⟨x, hx, _, w, hw, rw'⟩ := c'.sl Γ.length (.sh d) (by simp)
  have : x = some v := by
    rw [hl] at hx
    simpa using hx.symm
  rw [this] at hw; cases hw; exact rw'
theorem Out.hold (o : Out G C Hi σ H Γ v r) : ∃ Hi', Ext Hi Hi' ∧ Rel G C Hi' σ H Γ ∧ Hold G Hi' σ v r := by
  cases r with
  | sh d => exact ⟨Hi, Ext.refl _, o.1, o.2⟩
  | vr i => exact ⟨Hi, Ext.refl _, o.1, o.2⟩
  | op t d => exact ⟨Hi, Ext.refl _, o.2.trunc o.1, trivial⟩
  | ow d =>
    obtain ⟨Hi', e, c, h⟩ := Rel.settle o.1 o.2
    exact ⟨Hi', e, c, h⟩
theorem Rel.at_ow (c : Rel G C Hi σ H Γ) {i : Nat} {d : D} (h : Γ[i]? = some (.ow d)) : ∃ p, σ[i]? = some (some (.ref p)) ∧ Own G.K Hi H p d := by
  obtain ⟨fp, c⟩ := c
  obtain ⟨x, hx, p, _, e, ow, _⟩ := c.sl i _ h
  exact ⟨p, by rw [hx, e], ow⟩
theorem Rel.at_io (c : Rel G C Hi σ H Γ) {i : Nat} {d : D} (h : Γ[i]? = some (.io d)) : ∃ p, σ[i]? = some (some (.ref p)) ∧ Own G.K Hi H p d := by
  obtain ⟨fp, c⟩ := c
  obtain ⟨x, hx, p, _, e, ow, _⟩ := c.sl i _ h
  exact ⟨p, by rw [hx, e], ow⟩
theorem Rel.at_sh (c : Rel G C Hi σ H Γ) {i : Nat} {d : D} (h : Γ[i]? = some (.sh d)) : ∃ v, σ[i]? = some (some v) ∧ Rep G.K Hi v d := by
  obtain ⟨fp, c⟩ := c
  obtain ⟨x, hx, _, v, e, r⟩ := c.sl i _ h
  exact ⟨v, by rw [hx, e], r⟩
theorem Hold.read {k : D → Prop} (c : Rel G C Hi σ H Γ) (h : Hold G Hi σ v r) (q : rdW r Γ k) : ∃ d, Rdb G.K Hi H v d ∧ k d := by
  cases r with
  | sh d => exact ⟨d, .inl h, q⟩
  | ow d => exact ⟨d, .inl h, q⟩
  | vr i =>
    have h : σ[i]? = some (some v) := h
    unfold rdW at q
    dsimp only at q
    split at q
    · rename_i d e
      obtain ⟨w, h1, h2⟩ := c.at_sh e
      rw [h] at h1; cases h1
      exact ⟨d, .inl h2, q⟩
    · rename_i d e
      obtain ⟨p, h1, h2⟩ := c.at_ow e
      rw [h] at h1; cases h1
      exact ⟨d, .inr ⟨p, rfl, h2⟩, q⟩
    · rename_i d e
      obtain ⟨p, h1, h2⟩ := c.at_io e
      rw [h] at h1; cases h1
      exact ⟨d, .inr ⟨p, rfl, h2⟩, q⟩
    · exact q.elim
  | op t d => exact q.elim
theorem Hold.share {k : D → Ev → Prop} (c : Rel G C Hi σ H Γ) (h : Hold G Hi σ v r) (q : frW r Γ k) : ∃ d Hi' Γ', Ext Hi Hi' ∧ Rel G C Hi' σ H Γ' ∧ Rep G.K Hi' v d ∧ k d Γ' := by
  cases r with
  | sh d => exact ⟨d, Hi, Γ, Ext.refl _, c, h, q⟩
  | ow d => exact ⟨d, Hi, Γ, Ext.refl _, c, h, q⟩
  | vr i =>
    have h : σ[i]? = some (some v) := h
    unfold frW at q
    dsimp only at q
    split at q
    · rename_i d e
      obtain ⟨w, h1, h2⟩ := c.at_sh e
      rw [h] at h1; cases h1
      exact ⟨d, Hi, Γ, Ext.refl _, c, h2, q⟩
    · rename_i d e
      obtain ⟨Hi', e', c'⟩ := Rel.freeze c e
      obtain ⟨w, h1, h2⟩ := c'.at_sh (i := i) (d := d) (by
        have := (List.getElem?_eq_some_iff.mp e).1
        rw [List.getElem?_set_self this])
      rw [h] at h1; cases h1
      exact ⟨d, Hi', _, e', c', h2, q⟩
    · exact q.elim
  | op t d => exact q.elim
theorem Out.share {k : D → Ev → Prop} (o : Out G C Hi σ H Γ v r) (q : frW r Γ k) : ∃ d Hi' Γ', Ext Hi Hi' ∧ Rel G C Hi' σ H Γ' ∧ Rep G.K Hi' v d ∧ k d Γ' := by
  obtain ⟨Hi1, e1, c1, h1⟩ := o.hold
  obtain ⟨d, Hi2, Γ2, e2, c2, r2, q2⟩ := h1.share c1 q
  exact ⟨d, Hi2, Γ2, e1.trans e2, c2, r2, q2⟩

variable {K : Fg}
theorem Rdb.int {x : V} {i : Int} (h : Rdb K Hi H x (.int i)) : x = .int i := by
  rcases h with h | ⟨p, _, h⟩
  · cases h; rfl
  · cases h
theorem Rdb.bl {x : V} {b : Bool} (h : Rdb K Hi H x (.bool b)) : x = .bl b := by
  rcases h with h | ⟨p, _, h⟩
  · cases h; rfl
  · cases h
theorem Rdb.str {x : V} {z : Str} (h : Rdb K Hi H x (.str z)) : x = .str z := by
  rcases h with h | ⟨p, _, h⟩
  · cases h; rfl
  · cases h
theorem Rdb.non {x : V} (h : Rdb K Hi H x .none) : x = .non := by
  rcases h with h | ⟨p, _, h⟩
  · cases h; rfl
  · cases h
theorem Rdb.list {x : V} {ds : List D} (e : Ext Hi H) (h : Rdb K Hi H x (.list ds)) : ∃ p xs, x = .ref p ∧ H p = some (.lst xs) ∧ Reps K Hi xs ds := by
  rcases h with h | ⟨p, rfl, h⟩
  · cases h with
    | lst h r => exact ⟨_, _, rfl, e _ _ h, r⟩
  · cases h with
    | lst h r => exact ⟨_, _, rfl, h, r⟩
theorem Rdb.tuple {x : V} {ds : List D} (e : Ext Hi H) (h : Rdb K Hi H x (.tuple ds)) : ∃ p xs, x = .ref p ∧ H p = some (.tup xs) ∧ Reps K Hi xs ds := by
  rcases h with h | ⟨p, _, h⟩
  · cases h with
    | tup h r => exact ⟨_, _, rfl, e _ _ h, r⟩
  · cases h
theorem Rdb.dict {x : V} {ps : List (D × D)} (e : Ext Hi H) (h : Rdb K Hi H x (.dict ps)) : ∃ p kvs, x = .ref p ∧ Rd H p (.dK kvs) ∧ RepKV K Hi kvs ps := by
  rcases h with h | ⟨p, rfl, h⟩
  · cases h with
    | dct h r => exact ⟨_, _, rfl, e.rd h, r⟩
  · cases h with
    | dct h r => exact ⟨_, _, rfl, .inl h, r⟩
theorem Rdb.rep {x : V} {d : D} (e : Ext Hi H) (h : Rdb K Hi H x d) : Rep K H x d := by
  rcases h with h | ⟨p, rfl, h⟩
  · exact h.mono e
  · cases h with
    | lst h r => exact .lst h (r.mono e)
    | dct h r => exact .dct (.inl h) (r.mono e)
end

def SimE (G : Gb) (W : WX) (t : TE) (w : WE) : Prop := ∀ (C : Cf) (Hi : Hp) (σ : St) (H : Hp) (Γ : Ev) (Q : VK) (Qd : R → Ev → Prop) (Xd : XW), Rel G C Hi σ H Γ → w Γ Qd Xd →
  (∀ v r H' Hi' Γ', Ext Hi Hi' → Out G C Hi' σ H' Γ' v r → Qd r Γ' → Q v H') →
  (∀ x c d H' Hi' Γ', Ext Hi Hi' → Rel G C Hi' σ H' Γ' → G.xr x c d Hi' → Xd x Γ' → W c d σ H') → t σ H Q
def SimT (G : Gb) (W : WX) (t : TT) (w : WT) : Prop := ∀ (C : Cf) (Hi : Hp) (σ : St) (H : Hp) (Γ : Ev) (Q : Bool → Hp → Prop) (Qd : Bool → Ev → Prop) (Xd : XW), Rel G C Hi σ H Γ → w Γ Qd Xd →
  (∀ b H' Hi' Γ', Ext Hi Hi' → Rel G C Hi' σ H' Γ' → Qd b Γ' → Q b H') →
  (∀ x c d H' Hi' Γ', Ext Hi Hi' → Rel G C Hi' σ H' Γ' → G.xr x c d Hi' → Xd x Γ' → W c d σ H') → t σ H Q
inductive Holds (G : Gb) (Hi : Hp) (σ : St) : List V → List R → Prop
  | nil : Holds G Hi σ [] []
  | cons {v : V} {vs : List V} {r : R} {rs : List R} : Hold G Hi σ v r → Holds G Hi σ vs rs → Holds G Hi σ (v :: vs) (r :: rs)
def SimA (G : Gb) (W : WX) (t : TA) (w : WA) : Prop := ∀ (C : Cf) (Hi : Hp) (σ : St) (H : Hp) (Γ : Ev) (Q : List V → Hp → Prop) (Qd : List R → Ev → Prop) (Xd : XW), Rel G C Hi σ H Γ → w Γ Qd Xd →
  (∀ vs rs H' Hi' Γ', Ext Hi Hi' → Rel G C Hi' σ H' Γ' → Holds G Hi' σ vs rs → Qd rs Γ' → Q vs H') →
  (∀ x c d H' Hi' Γ', Ext Hi Hi' → Rel G C Hi' σ H' Γ' → G.xr x c d Hi' → Xd x Γ' → W c d σ H') → t σ H Q
def SimS (G : Gb) (W : WX) (t : TS) (w : WS) : Prop := ∀ (C : Cf) (Hi : Hp) (σ : St) (H : Hp) (Γ : Ev) (Dn : Ends) (Dd : WD) (Xd : XW), Rel G C Hi σ H Γ → w Γ Dd Xd →
  (∀ σ' H' Hi' Γ', Ext Hi Hi' → Rel G C Hi' σ' H' Γ' → Dd.nx Γ' → Dn.nx σ' H') →
  (∀ v r σ' H' Hi' Γ', Ext Hi Hi' → Out G C Hi' σ' H' Γ' v r → Dd.rt r Γ' → Dn.rt v H') →
  (∀ σ' H' Hi' Γ', Ext Hi Hi' → Rel G C Hi' σ' H' Γ' → Dd.bk Γ' → Dn.bk σ' H') →
  (∀ σ' H' Hi' Γ', Ext Hi Hi' → Rel G C Hi' σ' H' Γ' → Dd.ct Γ' → Dn.ct σ' H') →
  (∀ x c d σ' H' Hi' Γ', Ext Hi Hi' → Rel G C Hi' σ' H' Γ' → G.xr x c d Hi' → Xd x Γ' → W c d σ' H') → t Dn σ H
end VL

set_option Elab.async false
set_option linter.all false
set_option maxRecDepth 100000
namespace VL
open PySem L2

section
variable {G : Gb} {C : Cf} {Hi Hi' H H' : Hp} {σ : St} {Γ : Ev} {fp : Nat → List Addr} {W : WX}
theorem Core.grow (c : Core G C Hi σ H Γ fp) (k : Ext H H') (e : Ext Hi Hi') (im : Ext Hi' H') (ov : ∀ a o, Hi' a = some o → Hi a = some o ∨ H a = none) : Core G C Hi' σ H' Γ fp where
  frame := fun a o h n => k a o (c.frame a o h n)
  live := fun a h => by
    cases q : H a with
    | none => exact absurd q (c.live a h)
    | some o => rw [k a o q]; simp
  imm := im
  base := c.base.trans e
  ov := fun a o h => by
    rcases ov a o h with q | q
    · exact c.ov a o q
    · exact .inr (c.fresh q).2
  len := c.len
  sl := fun j s h => by
    obtain ⟨x, h1, h2⟩ := c.sl j s h
    refine ⟨x, h1, h2.to e fun a ha => ?_⟩
    obtain ⟨o, ho⟩ := h2.trk a ha
    rw [ho]; exact k a o ho
  dj := c.dj
  av := fun i a hi ha => by
    cases q : Hi' a with
    | none => rfl
    | some o =>
      rcases ov a o q with z | z
      · rw [c.av i a hi ha] at z; cases z
      · obtain ⟨u, hu⟩ := c.trk hi ha
        rw [z] at hu; cases hu
theorem Rel.grow (c : Rel G C Hi σ H Γ) (k : Ext H H') (e : Ext Hi Hi') (im : Ext Hi' H') (ov : ∀ a o, Hi' a = some o → Hi a = some o ∨ H a = none) : Rel G C Hi' σ H' Γ :=
  let ⟨_, c⟩ := c
  ⟨_, c.grow k e im ov⟩
theorem Rel.laid {p : Addr} {o : HO} (c : Rel G C Hi σ H Γ) (hp : H p = none) : Ext Hi (upd Hi p o) ∧ Rel G C (upd Hi p o) σ (upd H p o) Γ := by
  have hn := c.imm.none_of hp
  refine ⟨Ext.new hn, c.grow (Ext.new hp) (Ext.new hn) (fun a u h => ?_) fun a u h => ?_⟩
  · by_cases e : a = p
    · rw [e, upd_same] at h; rw [e, upd_same]; exact h
    · rw [upd_ne e] at h; rw [upd_ne e]; exact c.imm a u h
  · by_cases e : a = p
    · rw [e]; exact .inr hp
    · rw [upd_ne e] at h; exact .inl h
theorem Out.new {p : Addr} {o : HO} {d : D} (c : Rel G C Hi σ H Γ) (hp : H p = none) (ow : Own G.K Hi (upd H p o) p d) : Out G C Hi σ (upd H p o) Γ (.ref p) (.ow d) := ⟨c.len, c.alloc hp ow⟩
theorem Out.newL {p : Addr} {xs : List V} {ds : List D} (c : Rel G C Hi σ H Γ) (hp : H p = none) (r : Reps G.K Hi xs ds) : Out G C Hi σ (upd H p (.lst xs)) Γ (.ref p) (.ow (.list ds)) := Out.new c hp (.lst upd_same r)
theorem Out.newT {p : Addr} {xs : List V} {ds : List D} (c : Rel G C Hi σ H Γ) (hp : H p = none) (r : Reps G.K Hi xs ds) :
    Ext Hi (upd Hi p (.tup xs)) ∧ Out G C (upd Hi p (.tup xs)) σ (upd H p (.tup xs)) Γ (.ref p) (.sh (.tuple ds)) := by
  obtain ⟨e, c'⟩ := c.laid (o := .tup xs) hp
  exact ⟨e, c', .tup upd_same (r.mono e)⟩

def wVar (i : Nat) : WE := fun Γ Q _ => match Γ[i]? with
  | some (.sh d) => Q (.sh d) Γ
  | some (.ow _) => Q (.vr i) Γ
  | some (.io _) => Q (.vr i) Γ
  | some (.op _ _) => Q (.vr i) Γ
  | _ => False
theorem sim_var (i : Nat) : SimE G W (tVar i) (wVar i) := by
  intro C Hi σ H Γ Q Qd Xd c hw hQ hX
  unfold wVar at hw
  split at hw
  · rename_i d e
    obtain ⟨v, h1, h2⟩ := c.at_sh e
    exact ⟨v, h1, hQ v (.sh d) H Hi Γ (Ext.refl _) ⟨c, h2⟩ hw⟩
  · rename_i d e
    obtain ⟨p, h1, _⟩ := c.at_ow e
    exact ⟨_, h1, hQ _ (.vr i) H Hi Γ (Ext.refl _) ⟨c, h1⟩ hw⟩
  · rename_i d e
    obtain ⟨p, h1, _⟩ := c.at_io e
    exact ⟨_, h1, hQ _ (.vr i) H Hi Γ (Ext.refl _) ⟨c, h1⟩ hw⟩
  · rename_i t d e
    obtain ⟨fp, c0⟩ := id c
    obtain ⟨x, hx, p, e1, _⟩ := c0.sl i _ e
    rw [e1] at hx
    exact ⟨_, hx, hQ _ (.vr i) H Hi Γ (Ext.refl _) ⟨c, hx⟩ hw⟩
  · exact hw.elim
def wC (d : D) : WE := fun Γ Q _ => Q (.sh d) Γ
theorem sim_c {v : V} {d : D} (h : ∀ Hi, Rep G.K Hi v d) : SimE G W (tC v) (wC d) := fun C Hi σ H Γ Q Qd Xd c hw hQ hX => hQ v (.sh d) H Hi Γ (Ext.refl _) ⟨c, h Hi⟩ hw

abbrev Op2 := D → D → (R → Prop) → Prop
abbrev Op1 := D → (R → Prop) → Prop
def Sem2 (G : Gb) (r : R2) (o : Op2) : Prop := ∀ {C : Cf} {Hi : Hp} {σ : St} {H : Hp} {Γ : Ev} {x y : V} {a b : D} {k : R → Prop} {Q : VK}, Rel G C Hi σ H Γ → Rdb G.K Hi H x a → Rdb G.K Hi H y b → o a b k →
  (∀ v r H' Hi', Ext Hi Hi' → Out G C Hi' σ H' Γ v r → k r → Q v H') → r x y H Q
def Sem1 (G : Gb) (r : V → Hp → VK → Prop) (o : Op1) : Prop := ∀ {C : Cf} {Hi : Hp} {σ : St} {H : Hp} {Γ : Ev} {x : V} {a : D} {k : R → Prop} {Q : VK}, Rel G C Hi σ H Γ → Rdb G.K Hi H x a → o a k →
  (∀ v r H' Hi', Ext Hi Hi' → Out G C Hi' σ H' Γ v r → k r → Q v H') → r x H Q
def wOp (o : Op2) (wa wb : WE) : WE := fun Γ Q X => wa Γ (fun ra Γ1 => wb Γ1 (fun rb Γ2 => rdW ra Γ2 fun a => rdW rb Γ2 fun b => o a b fun r => Q r Γ2) X) X
theorem sim_op {r : R2} {o : Op2} {ta tb : TE} {wa wb : WE} (h : Sem2 G r o) (ha : SimE G W ta wa) (hb : SimE G W tb wb) : SimE G W (tOp r ta tb) (wOp o wa wb) := by
  intro C Hi σ H Γ Q Qd Xd c hw hQ hX
  refine ha C Hi σ H Γ _ _ Xd c hw (fun v1 r1 H1 Hi1 Γ1 e1 o1 q1 => ?_) hX
  obtain ⟨Hi2, e2, c2, h2⟩ := o1.hold
  refine hb C Hi2 σ H1 Γ1 _ _ Xd c2 q1 (fun v3 r3 H3 Hi3 Γ3 e3 o3 q3 => ?_) fun x c d H' Hi' Γ' e' => hX x c d H' Hi' Γ' ((e1.trans e2).trans e')
  obtain ⟨Hi4, e4, c4, h4⟩ := o3.hold
  obtain ⟨d1, b1, q4⟩ := (h2.mono (e3.trans e4)).read c4 q3
  obtain ⟨d2, b2, q5⟩ := h4.read c4 q4
  exact h c4 b1 b2 q5 fun v r H' Hi' e o q => hQ v r H' Hi' Γ3 ((((e1.trans e2).trans e3).trans e4).trans e) o q
def wUn (o : Op1) (wa : WE) : WE := fun Γ Q X => wa Γ (fun ra Γ1 => rdW ra Γ1 fun a => o a fun r => Q r Γ1) X
theorem sim_un {r : V → Hp → VK → Prop} {o : Op1} {ta : TE} {wa : WE} (h : Sem1 G r o) (ha : SimE G W ta wa) : SimE G W (tUn r ta) (wUn o wa) := by
  intro C Hi σ H Γ Q Qd Xd c hw hQ hX
  refine ha C Hi σ H Γ _ _ Xd c hw (fun v1 r1 H1 Hi1 Γ1 e1 o1 q1 => ?_) hX
  obtain ⟨Hi2, e2, c2, h2⟩ := o1.hold
  obtain ⟨d1, b1, q4⟩ := h2.read c2 q1
  exact h c2 b1 q4 fun v r H' Hi' e o q => hQ v r H' Hi' Γ1 ((e1.trans e2).trans e) o q
theorem out_int (c : Rel G C Hi σ H Γ) (i : Int) : Out G C Hi σ H Γ (.int i) (.sh (.int i)) := ⟨c, .int i⟩
theorem out_bl (c : Rel G C Hi σ H Γ) (i : Bool) : Out G C Hi σ H Γ (.bl i) (.sh (.bool i)) := ⟨c, .bl i⟩
theorem out_str (c : Rel G C Hi σ H Γ) (i : Str) : Out G C Hi σ H Γ (.str i) (.sh (.str i)) := ⟨c, .str i⟩
def isI (d : D) (k : Int → Prop) : Prop := match d with
  | .int i => k i
  | _ => False
def isB (d : D) (k : Bool → Prop) : Prop := match d with
  | .bool b => k b
  | _ => False
def isS (d : D) (k : Str → Prop) : Prop := match d with
  | .str s => k s
  | _ => False
def isL (d : D) (k : List D → Prop) : Prop := match d with
  | .list s => k s
  | _ => False
def oII (P : Int → Int → Prop) (g : Int → Int → Int) : Op2 := fun a b k => isI a fun i => isI b fun j => P i j ∧ k (.sh (.int (g i j)))
def oIB (g : Int → Int → Bool) : Op2 := fun a b k => isI a fun i => isI b fun j => k (.sh (.bool (g i j)))
theorem isI_inv {d : D} {k : Int → Prop} (h : isI d k) : ∃ i, d = .int i ∧ k i := by
  unfold isI at h; split at h
  · exact ⟨_, rfl, h⟩
  · exact h.elim
theorem isB_inv {d : D} {k : Bool → Prop} (h : isB d k) : ∃ i, d = .bool i ∧ k i := by
  unfold isB at h; split at h
  · exact ⟨_, rfl, h⟩
  · exact h.elim
theorem isS_inv {d : D} {k : Str → Prop} (h : isS d k) : ∃ i, d = .str i ∧ k i := by
  unfold isS at h; split at h
  · exact ⟨_, rfl, h⟩
  · exact h.elim
theorem isL_inv {d : D} {k : List D → Prop} (h : isL d k) : ∃ i, d = .list i ∧ k i := by
  unfold isL at h; split at h
  · exact ⟨_, rfl, h⟩
  · exact h.elim
theorem sem_II {P P' : Int → Int → Prop} {g : Int → Int → Int} {g' : Int → Int → V} (hp : ∀ i j, P i j → P' i j) (hg : ∀ i j, P i j → g' i j = .int (g i j)) : Sem2 G (rI P' g') (oII P g) := by
  intro C Hi σ H Γ x y a b k Q c ha hb h q
  obtain ⟨i, rfl, h1⟩ := isI_inv h
  obtain ⟨j, rfl, hP, h⟩ := isI_inv h1
  refine ⟨i, j, ha.int, hb.int, hp i j hP, ?_⟩
  rw [hg i j hP]
  exact q _ _ H Hi (Ext.refl _) (out_int c _) h
theorem sem_II0 {g : Int → Int → Int} : Sem2 G (rI0 fun i j => .int (g i j)) (oII (fun _ _ => True) g) := by
  intro C Hi σ H Γ x y a b k Q c ha hb h q
  obtain ⟨i, rfl, h1⟩ := isI_inv h
  obtain ⟨j, rfl, hP, h⟩ := isI_inv h1
  exact ⟨i, j, ha.int, hb.int, q _ _ H Hi (Ext.refl _) (out_int c _) h⟩
theorem sem_IB {g : Int → Int → Bool} : Sem2 G (rI0 fun i j => .bl (g i j)) (oIB g) := by
  intro C Hi σ H Γ x y a b k Q c ha hb h q
  obtain ⟨i, rfl, h1⟩ := isI_inv h
  obtain ⟨j, rfl, h⟩ := isI_inv h1
  exact ⟨i, j, ha.int, hb.int, q _ _ H Hi (Ext.refl _) (out_bl c _) h⟩

mutual
theorem Rep.dp {K : Fg} {H : Hp} : ∀ {v : V} {d : D}, Rep K H v d → d.canLay0 = true → Dp K H v d
  | _, _, .non, _ => .non
  | _, _, .bl b, _ => .bl b
  | _, _, .int i, _ => .int i
  | _, _, .str x, _ => .str x
  | _, _, .lst h r, e => .lst (.inl (.inl h)) (Reps.dp r (by simpa [PyData.canLay0] using e))
  | _, _, .tup h r, e => .tup (.inl (.inl h)) (Reps.dp r (by simpa [PyData.canLay0] using e))
  | _, _, .dct h r, e => by simp [PyData.canLay0] at e
theorem Reps.dp {K : Fg} {H : Hp} : ∀ {vs : List V} {ds : List D}, Reps K H vs ds → PyData.canLayAll0 ds = true → DpAll K H vs ds
  | _, _, .nil, _ => .nil
  | _, d :: ds, .cons h r, e => by
    have e' : PyData.canLay0 d = true ∧ PyData.canLayAll0 ds = true := by simpa [PyData.canLayAll0] using e
    exact .cons (Rep.dp h e'.1) (Reps.dp r e'.2)
end
theorem Rdb.dp {K : Fg} {x : V} {d : D} (e : Ext Hi H) (h : Rdb K Hi H x d) (s : SeqAt.shaped d = true) : Dp K H x d := (h.rep e).dp (SeqAt.canLay_of_shaped s)
def oEq : Op2 := fun a b k => SeqAt.shaped a = true ∧ SeqAt.shaped b = true ∧ k (.sh (.bool (PyData.eqv a b)))
def oNe : Op2 := fun a b k => SeqAt.shaped a = true ∧ SeqAt.shaped b = true ∧ k (.sh (.bool (!PyData.eqv a b)))
theorem sem_eq : Sem2 G (rEqD G.K) oEq := by
  intro C Hi σ H Γ x y a b k Q c ha hb ⟨s1, s2, h⟩ q
  exact ⟨a, b, ha.dp c.imm s1, hb.dp c.imm s2, s1, s2, q _ _ H Hi (Ext.refl _) (out_bl c _) h⟩
theorem sem_ne : Sem2 G (rNeD G.K) oNe := by
  intro C Hi σ H Γ x y a b k Q c ha hb ⟨s1, s2, h⟩ q
  exact ⟨a, b, ha.dp c.imm s1, hb.dp c.imm s2, s1, s2, q _ _ H Hi (Ext.refl _) (out_bl c _) h⟩
def isNone : D → Bool
  | .none => true
  | _ => false
theorem rdb_none {K : Fg} {x : V} {d : D} (h : Rdb K Hi H x d) : decide (x = .non) = isNone d := by
  rcases h with h | ⟨p, rfl, h⟩
  · cases h <;> first | rfl | exact decide_eq_false (fun z => nomatch z)
  · cases h <;> exact decide_eq_false (fun z => nomatch z)
def isN (d : D) (k : Prop) : Prop := match d with
  | .none => k
  | _ => False
theorem isN_inv {d : D} {k : Prop} (h : isN d k) : d = .none ∧ k := by
  unfold isN at h; split at h
  · exact ⟨rfl, h⟩
  · exact h.elim
def oIsN : Op2 := fun a b k => isN b (k (.sh (.bool (isNone a))))
def oNotN : Op2 := fun a b k => isN b (k (.sh (.bool (!isNone a))))
theorem sem_isN : Sem2 G (fun x y H Q => y = .non ∧ Q (.bl (decide (x = .non))) H) oIsN := by
  intro C Hi σ H Γ x y a b k Q c ha hb h q
  obtain ⟨rfl, h⟩ := isN_inv h
  refine ⟨hb.non, ?_⟩
  rw [rdb_none ha]
  exact q _ _ H Hi (Ext.refl _) (out_bl c _) h
def wT (w : WE) : WT := fun Γ Q X => w Γ (fun r Γ1 => rdW r Γ1 fun d => isB d fun b => Q b Γ1) X
theorem sim_tB {t : TE} {w : WE} (h : SimE G W t w) : SimT G W (tB t) (wT w) := by
  intro C Hi σ H Γ Q Qd Xd c hw hQ hX
  refine h C Hi σ H Γ _ _ Xd c hw (fun v1 r1 H1 Hi1 Γ1 e1 o1 q1 => ?_) hX
  obtain ⟨Hi2, e2, c2, h2⟩ := o1.hold
  obtain ⟨d, b1, q⟩ := h2.read c2 q1
  obtain ⟨b, rfl, q⟩ := isB_inv q
  exact ⟨b, b1.bl, hQ b H1 Hi2 Γ1 (e1.trans e2) c2 q⟩
theorem sim_tTest {t : TE} {w : WE} (h : SimE G W t w) : SimT G W (tTest t) (wT w) := sim_tB h
def wAnd (a b : WT) : WT := fun Γ Q X => a Γ (fun c Γ1 => if c = true then b Γ1 Q X else Q false Γ1) X
def wOr (a b : WT) : WT := fun Γ Q X => a Γ (fun c Γ1 => if c = true then Q true Γ1 else b Γ1 Q X) X
def wNot (a : WT) : WT := fun Γ Q X => a Γ (fun c Γ1 => Q (!c) Γ1) X
theorem sim_and {t u : TT} {a b : WT} (ha : SimT G W t a) (hb : SimT G W u b) : SimT G W (tAnd t u) (wAnd a b) := by
  intro C Hi σ H Γ Q Qd Xd c hw hQ hX
  refine ha C Hi σ H Γ _ _ Xd c hw (fun b1 H1 Hi1 Γ1 e1 c1 q1 => ?_) hX
  cases b1 with
  | true => exact hb C Hi1 σ H1 Γ1 Q Qd Xd c1 q1 (fun b H' Hi' Γ' e => hQ b H' Hi' Γ' (e1.trans e)) fun x c d H' Hi' Γ' e => hX x c d H' Hi' Γ' (e1.trans e)
  | false => exact hQ false H1 Hi1 Γ1 e1 c1 q1
theorem sim_or {t u : TT} {a b : WT} (ha : SimT G W t a) (hb : SimT G W u b) : SimT G W (tOr t u) (wOr a b) := by
  intro C Hi σ H Γ Q Qd Xd c hw hQ hX
  refine ha C Hi σ H Γ _ _ Xd c hw (fun b1 H1 Hi1 Γ1 e1 c1 q1 => ?_) hX
  cases b1 with
  | false => exact hb C Hi1 σ H1 Γ1 Q Qd Xd c1 q1 (fun b H' Hi' Γ' e => hQ b H' Hi' Γ' (e1.trans e)) fun x c d H' Hi' Γ' e => hX x c d H' Hi' Γ' (e1.trans e)
  | true => exact hQ true H1 Hi1 Γ1 e1 c1 q1
theorem sim_not {t : TT} {a : WT} (ha : SimT G W t a) : SimT G W (tNot t) (wNot a) := fun C Hi σ H Γ Q Qd Xd c hw hQ hX =>
  ha C Hi σ H Γ _ _ Xd c hw (fun b H1 Hi1 Γ1 e1 c1 q1 => hQ (!b) H1 Hi1 Γ1 e1 c1 q1) hX
def wAndV (wa wb : WE) : WE := fun Γ Q X => wa Γ (fun r Γ1 => rdW r Γ1 fun d => isB d fun b => if b = true then wb Γ1 Q X else Q (.sh (.bool false)) Γ1) X
def wOrV (wa wb : WE) : WE := fun Γ Q X => wa Γ (fun r Γ1 => rdW r Γ1 fun d => isB d fun b => if b = true then Q (.sh (.bool true)) Γ1 else wb Γ1 Q X) X
def wNotV (wa : WE) : WE := fun Γ Q X => wa Γ (fun r Γ1 => rdW r Γ1 fun d => isB d fun b => Q (.sh (.bool (!b))) Γ1) X
theorem sim_andV {ta tb : TE} {wa wb : WE} (ha : SimE G W ta wa) (hb : SimE G W tb wb) : SimE G W (tAndV ta tb) (wAndV wa wb) := by
  intro C Hi σ H Γ Q Qd Xd c hw hQ hX
  refine ha C Hi σ H Γ _ _ Xd c hw (fun v1 r1 H1 Hi1 Γ1 e1 o1 q1 => ?_) hX
  obtain ⟨Hi2, e2, c2, h2⟩ := o1.hold
  obtain ⟨d, b1, q⟩ := h2.read c2 q1
  obtain ⟨b, rfl, q⟩ := isB_inv q
  refine ⟨b, b1.bl, ?_⟩
  cases b with
  | true => exact hb C Hi2 σ H1 Γ1 Q Qd Xd c2 q (fun v r H' Hi' Γ' e => hQ v r H' Hi' Γ' ((e1.trans e2).trans e)) fun x c d H' Hi' Γ' e => hX x c d H' Hi' Γ' ((e1.trans e2).trans e)
  | false => exact hQ _ _ H1 Hi2 Γ1 (e1.trans e2) (out_bl c2 _) q
theorem sim_orV {ta tb : TE} {wa wb : WE} (ha : SimE G W ta wa) (hb : SimE G W tb wb) : SimE G W (tOrV ta tb) (wOrV wa wb) := by
  intro C Hi σ H Γ Q Qd Xd c hw hQ hX
  refine ha C Hi σ H Γ _ _ Xd c hw (fun v1 r1 H1 Hi1 Γ1 e1 o1 q1 => ?_) hX
  obtain ⟨Hi2, e2, c2, h2⟩ := o1.hold
  obtain ⟨d, b1, q⟩ := h2.read c2 q1
  obtain ⟨b, rfl, q⟩ := isB_inv q
  refine ⟨b, b1.bl, ?_⟩
  cases b with
  | false => exact hb C Hi2 σ H1 Γ1 Q Qd Xd c2 q (fun v r H' Hi' Γ' e => hQ v r H' Hi' Γ' ((e1.trans e2).trans e)) fun x c d H' Hi' Γ' e => hX x c d H' Hi' Γ' ((e1.trans e2).trans e)
  | true => exact hQ _ _ H1 Hi2 Γ1 (e1.trans e2) (out_bl c2 _) q
def wIf (c : WT) (wa wb : WE) : WE := fun Γ Q X => c Γ (fun b Γ1 => if b = true then wa Γ1 Q X else wb Γ1 Q X) X
theorem sim_if {t : TT} {u : WT} {ta tb : TE} {wa wb : WE} (hc : SimT G W t u) (ha : SimE G W ta wa) (hb : SimE G W tb wb) : SimE G W (tIf t ta tb) (wIf u wa wb) := by
  intro C Hi σ H Γ Q Qd Xd c hw hQ hX
  refine hc C Hi σ H Γ _ _ Xd c hw (fun b1 H1 Hi1 Γ1 e1 c1 q1 => ?_) hX
  cases b1 with
  | true => exact ha C Hi1 σ H1 Γ1 Q Qd Xd c1 q1 (fun v r H' Hi' Γ' e => hQ v r H' Hi' Γ' (e1.trans e)) fun x c d H' Hi' Γ' e => hX x c d H' Hi' Γ' (e1.trans e)
  | false => exact hb C Hi1 σ H1 Γ1 Q Qd Xd c1 q1 (fun v r H' Hi' Γ' e => hQ v r H' Hi' Γ' (e1.trans e)) fun x c d H' Hi' Γ' e => hX x c d H' Hi' Γ' (e1.trans e)
def wChain (o o' : Op2) (wa wb wc : WE) : WE := fun Γ Q X => wa Γ (fun ra Γ1 => wb Γ1 (fun rb Γ2 => rdW ra Γ2 fun a => rdW rb Γ2 fun b => o a b fun r => rdW r Γ2 fun d => isB d fun z =>
  if z = true then wc Γ2 (fun rc Γ3 => rdW rb Γ3 fun b' => rdW rc Γ3 fun c' => o' b' c' fun r => Q r Γ3) X else Q (.sh (.bool false)) Γ2) X) X
theorem sim_chain {r r' : R2} {o o' : Op2} {ta tb tc : TE} {wa wb wc : WE} (h : Sem2 G r o) (h' : Sem2 G r' o') (ha : SimE G W ta wa) (hb : SimE G W tb wb) (hc : SimE G W tc wc) : SimE G W (tChain r r' ta tb tc) (wChain o o' wa wb wc) := by
  intro C Hi σ H Γ Q Qd Xd c hw hQ hX
  refine ha C Hi σ H Γ _ _ Xd c hw (fun v1 r1 H1 Hi1 Γ1 e1 o1 q1 => ?_) hX
  obtain ⟨Hi2, e2, c2, h2⟩ := o1.hold
  have f2 := e1.trans e2
  refine hb C Hi2 σ H1 Γ1 _ _ Xd c2 q1 (fun v3 r3 H3 Hi3 Γ3 e3 o3 q3 => ?_) fun x c d H' Hi' Γ' e' => hX x c d H' Hi' Γ' (f2.trans e')
  obtain ⟨Hi4, e4, c4, h4⟩ := o3.hold
  have f4 := (f2.trans e3).trans e4
  obtain ⟨d1, b1, q4⟩ := (h2.mono (e3.trans e4)).read c4 q3
  obtain ⟨d2, b2, q5⟩ := h4.read c4 q4
  refine h c4 b1 b2 q5 fun v r H5 Hi5 e5 o5 q6 => ?_
  obtain ⟨Hi6, e6, c6, h6⟩ := o5.hold
  obtain ⟨d3, b3, q7⟩ := h6.read c6 q6
  obtain ⟨z, rfl, q8⟩ := isB_inv q7
  have f6 := (f4.trans e5).trans e6
  refine ⟨z, b3.bl, ?_⟩
  cases z with
  | false => exact hQ _ _ H5 Hi6 Γ3 f6 (out_bl c6 _) q8
  | true =>
    refine hc C Hi6 σ H5 Γ3 _ _ Xd c6 q8 (fun v7 r7 H7 Hi7 Γ7 e7 o7 q9 => ?_) fun x c d H' Hi' Γ' e' => hX x c d H' Hi' Γ' (f6.trans e')
    obtain ⟨Hi8, e8, c8, h8⟩ := o7.hold
    obtain ⟨d4, b4, q10⟩ := (h4.mono (((e5.trans e6).trans e7).trans e8)).read c8 q9
    obtain ⟨d5, b5, q11⟩ := h8.read c8 q10
    exact h' c8 b4 b5 q11 fun v r H' Hi' e o q => hQ v r H' Hi' Γ7 (((f6.trans e7).trans e8).trans e) o q

def wNil : WA := fun Γ Q _ => Q [] Γ
def wCons (wa : WE) (wr : WA) : WA := fun Γ Q X => wa Γ (fun r Γ1 => wr Γ1 (fun rs Γ2 => Q (r :: rs) Γ2) X) X
theorem sim_nil : SimA G W tNil wNil := fun C Hi σ H Γ Q Qd Xd c hw hQ hX => hQ [] [] H Hi Γ (Ext.refl _) c .nil hw
theorem sim_cons {te : TE} {tr : TA} {we : WE} {wr : WA} (ha : SimE G W te we) (hr : SimA G W tr wr) : SimA G W (tCons te tr) (wCons we wr) := by
  intro C Hi σ H Γ Q Qd Xd c hw hQ hX
  refine ha C Hi σ H Γ _ _ Xd c hw (fun v1 r1 H1 Hi1 Γ1 e1 o1 q1 => ?_) hX
  obtain ⟨Hi2, e2, c2, h2⟩ := o1.hold
  have f2 := e1.trans e2
  refine hr C Hi2 σ H1 Γ1 _ _ Xd c2 q1 (fun vs rs H3 Hi3 Γ3 e3 c3 h3 q3 => ?_) fun x c d H' Hi' Γ' e' => hX x c d H' Hi' Γ' (f2.trans e')
  exact hQ (v1 :: vs) (r1 :: rs) H3 Hi3 Γ3 (f2.trans e3) c3 (.cons (h2.mono e3) h3) q3
def frAll : List R → Ev → (List D → Ev → Prop) → Prop
  | [], Γ, k => k [] Γ
  | r :: rs, Γ, k => frW r Γ fun d Γ1 => frAll rs Γ1 fun ds Γ2 => k (d :: ds) Γ2
theorem Holds.mono {vs : List V} {rs : List R} (h : Holds G Hi σ vs rs) (e : Ext Hi Hi') : Holds G Hi' σ vs rs := by
  induction h with
  | nil => exact .nil
  | cons a r ih => exact .cons (a.mono e) ih
theorem Holds.share {vs : List V} {rs : List R} (h : Holds G Hi σ vs rs) : ∀ {Hi' : Hp} {Γ : Ev} {k : List D → Ev → Prop}, Ext Hi Hi' → Rel G C Hi' σ H Γ → frAll rs Γ k →
    ∃ ds Hi2 Γ', Ext Hi' Hi2 ∧ Rel G C Hi2 σ H Γ' ∧ Reps G.K Hi2 vs ds ∧ k ds Γ' := by
  induction h with
  | nil => intro Hi' Γ k e c q; exact ⟨[], Hi', Γ, Ext.refl _, c, .nil, q⟩
  | cons a r ih =>
    intro Hi' Γ k e c q
    obtain ⟨d, Hi2, Γ2, e2, c2, r2, q2⟩ := (a.mono e).share c q
    obtain ⟨ds, Hi3, Γ3, e3, c3, r3, q3⟩ := ih (e.trans e2) c2 q2
    exact ⟨d :: ds, Hi3, Γ3, e2.trans e3, c3, .cons (r2.mono e3) r3, q3⟩
def rdAll : List R → Ev → (List D → Prop) → Prop
  | [], _, k => k []
  | r :: rs, Γ, k => rdW r Γ fun d => rdAll rs Γ fun ds => k (d :: ds)
inductive Rdbs (K : Fg) (Hi H : Hp) : List V → List D → Prop
  | nil : Rdbs K Hi H [] []
  | cons {v : V} {vs : List V} {d : D} {ds : List D} : Rdb K Hi H v d → Rdbs K Hi H vs ds → Rdbs K Hi H (v :: vs) (d :: ds)
theorem Holds.read {vs : List V} {rs : List R} (h : Holds G Hi σ vs rs) (c : Rel G C Hi σ H Γ) : ∀ {k : List D → Prop}, rdAll rs Γ k → ∃ ds, Rdbs G.K Hi H vs ds ∧ k ds := by
  induction h with
  | nil => intro k q; exact ⟨[], .nil, q⟩
  | cons a r ih =>
    intro k q
    obtain ⟨d, b, q⟩ := a.read c q
    obtain ⟨ds, bs, q⟩ := ih q
    exact ⟨d :: ds, .cons b bs, q⟩
def wTup (wa : WA) : WE := fun Γ Q X => wa Γ (fun rs Γ1 => frAll rs Γ1 fun ds Γ2 => ds.length ≤ 1000 ∧ Q (.sh (.tuple ds)) Γ2) X
def wLst (wa : WA) : WE := fun Γ Q X => wa Γ (fun rs Γ1 => frAll rs Γ1 fun ds Γ2 => ds.length ≤ 1000 ∧ Q (.ow (.list ds)) Γ2) X
theorem le_line {n : Nat} (h : n ≤ 1000) : n ≤ sizeLine := by rw [sizeLine_eq]; omega
theorem sim_tup {ta : TA} {wa : WA} (h : SimA G W ta wa) : SimE G W (tTup ta) (wTup wa) := by
  intro C Hi σ H Γ Q Qd Xd c hw hQ hX
  refine h C Hi σ H Γ _ _ Xd c hw (fun vs rs H1 Hi1 Γ1 e1 c1 h1 q1 => ?_) hX
  obtain ⟨ds, Hi2, Γ2, e2, c2, r2, hl, q2⟩ := h1.share (Ext.refl _) c1 q1
  refine ⟨le_line (by rw [r2.length]; exact hl), fun p hp => ?_⟩
  obtain ⟨e3, o3⟩ := Out.newT c2 hp r2
  exact hQ _ _ _ _ Γ2 ((e1.trans e2).trans e3) o3 q2
theorem sim_lst {ta : TA} {wa : WA} (h : SimA G W ta wa) : SimE G W (tLst ta) (wLst wa) := by
  intro C Hi σ H Γ Q Qd Xd c hw hQ hX
  refine h C Hi σ H Γ _ _ Xd c hw (fun vs rs H1 Hi1 Γ1 e1 c1 h1 q1 => ?_) hX
  obtain ⟨ds, Hi2, Γ2, e2, c2, r2, hl, q2⟩ := h1.share (Ext.refl _) c1 q1
  exact ⟨le_line (by rw [r2.length]; exact hl), fun p hp => hQ _ _ _ _ Γ2 (e1.trans e2) (Out.newL c2 hp r2) q2⟩

abbrev OpN := List D → (R → Prop) → Prop
def SemN (G : Gb) (r : List V → Hp → VK → Prop) (o : OpN) : Prop := ∀ {C : Cf} {Hi : Hp} {σ : St} {H : Hp} {Γ : Ev} {xs : List V} {ds : List D} {k : R → Prop} {Q : VK}, Rel G C Hi σ H Γ → Rdbs G.K Hi H xs ds → o ds k →
  (∀ v r H' Hi', Ext Hi Hi' → Out G C Hi' σ H' Γ v r → k r → Q v H') → r xs H Q
def wCB (o : OpN) (wa : WA) : WE := fun Γ Q X => wa Γ (fun rs Γ1 => rdAll rs Γ1 fun ds => o ds fun r => Q r Γ1) X
theorem sim_cb {r : List V → Hp → VK → Prop} {o : OpN} {ta : TA} {wa : WA} (h : SemN G r o) (ha : SimA G W ta wa) : SimE G W (tCB r ta) (wCB o wa) := by
  intro C Hi σ H Γ Q Qd Xd c hw hQ hX
  refine ha C Hi σ H Γ _ _ Xd c hw (fun vs rs H1 Hi1 Γ1 e1 c1 h1 q1 => ?_) hX
  obtain ⟨ds, bs, q⟩ := h1.read c1 q1
  exact h c1 bs q fun v r H' Hi' e o q => hQ v r H' Hi' Γ1 (e1.trans e) o q
end
end VL

set_option Elab.async false
set_option linter.all false
set_option maxRecDepth 100000
namespace VL
open PySem L2

section
variable {G : Gb} {C : Cf} {Hi Hi' H H' : Hp} {σ σ2 τ : St} {Γ Γ2 Δ : Ev} {fp fp' : Nat → List Addr} {W : WX}
theorem Rel.move {x : Option V} {s : Sl} {i : Nat} (c : Rel G C Hi (σ ++ [x]) H (Γ ++ [s])) (hl : Γ.length = σ.length) (hi : i < Γ.length) : Rel G C Hi (σ.set i x) H (Γ.set i s) := by
  obtain ⟨fp, c⟩ := c
  have c0 : Core G C Hi σ H Γ fp := by
    refine ⟨c.frame, c.live, c.imm, c.base, c.ov, hl, fun j s h => ?_, fun i j a hi hj => c.dj i j a (by simp; omega) (by simp; omega), fun i a hi => c.av i a (by simp; omega)⟩
    have hj : j < Γ.length := (List.getElem?_eq_some_iff.mp h).1
    obtain ⟨x, h1, h2⟩ := c.sl j s (by rw [List.getElem?_append_left hj]; exact h)
    exact ⟨x, by rw [List.getElem?_append_left (by omega)] at h1; exact h1, h2⟩
  obtain ⟨y, hy, ok⟩ := c.sl Γ.length s (by simp)
  have ey : y = x := by
    rw [hl] at hy
    simpa using hy.symm
  subst ey
  exact ⟨_, c0.put hi ok fun a ha => ⟨c.av Γ.length a (by simp) ha, fun j hj hne hm => by
    have := c.dj j Γ.length a (by simp; omega) (by simp) hm ha
    omega⟩⟩
theorem Rel.push_sh {v : V} {d : D} (c : Rel G C Hi σ H Γ) (r : Rep G.K Hi v d) : Rel G C Hi (σ ++ [some v]) H (Γ ++ [.sh d]) :=
  let ⟨_, c⟩ := c
  ⟨_, c.push (l := []) (Ext.refl _) ⟨rfl, v, rfl, r⟩ fun a ha => nomatch ha⟩

def InFp (fp : Nat → List Addr) (n : Nat) (a : Addr) : Prop := ∃ i, i < n ∧ a ∈ fp i
open Classical in
noncomputable def Cf.aside (C : Cf) (Hi H : Hp) (fp : Nat → List Addr) (n : Nat) (lv : ∀ a, C.H0 a ≠ none → H a ≠ none) : Cf where
  H0 := fun a => if InFp fp n a then C.H0 a else H a
  I0 := Hi
  io := C.io
  iot := fun a h => by
    split
    · exact C.iot a h
    · exact lv a (C.iot a h)
  pa := C.pa
open Classical in
theorem Core.aside (c : Core G C Hi (σ ++ τ) H (Γ ++ Δ) fp) (hl : Γ.length = σ.length) : Core G (C.aside Hi H fp Γ.length c.live) Hi σ H Γ fp where
  frame := fun a o h n => by
    have h : (if InFp fp Γ.length a then C.H0 a else H a) = some o := h
    split at h
    · exact c.frame a o h n
    · exact h
  live := fun a h => by
    have h : (if InFp fp Γ.length a then C.H0 a else H a) ≠ none := h
    split at h
    · exact c.live a h
    · exact h
  imm := c.imm
  base := Ext.refl _
  ov := fun a o h => .inl h
  len := hl
  sl := fun j s h => by
    have hj : j < Γ.length := (List.getElem?_eq_some_iff.mp h).1
    obtain ⟨x, h1, h2⟩ := c.sl j s (by rw [List.getElem?_append_left hj]; exact h)
    refine ⟨x, by rw [List.getElem?_append_left (by omega)] at h1; exact h1, ?_⟩
    have hin : ∀ a ∈ fp j, (C.aside Hi H fp Γ.length c.live).H0 a = C.H0 a := fun a ha => if_pos ⟨j, hj, ha⟩
    cases s with
    | no => exact h2
    | sh d => exact h2
    | ow d =>
      obtain ⟨p, e0, e1, e2, e3⟩ := h2
      exact ⟨p, e0, e1, e2, by rw [hin p (by rw [e0]; simp)]; exact e3⟩
    | io d => exact h2
    | op t d =>
      obtain ⟨p, e1, e2, e3, e4⟩ := h2
      exact ⟨p, e1, e2, fun a ha => by rw [hin a ha]; exact e3 a ha, e4⟩
    | two a b => exact h2
  dj := fun i j a hi hj => c.dj i j a (by simp; omega) (by simp; omega)
  av := fun i a hi => c.av i a (by simp; omega)
def Plain : Ev → Prop := fun Δ => ∀ s ∈ Δ, (∃ d, s = .sh d) ∨ (∃ d, s = .ow d) ∨ ∃ t d, 10 ≤ t ∧ s = .op t d
open Classical in
theorem Core.back (c : Core G C Hi (σ ++ τ) H (Γ ++ Δ) fp) (hl : Γ.length = σ.length) (pl : Plain Δ) (e : Ext Hi Hi') (n : Core G (C.aside Hi H fp Γ.length c.live) Hi' σ2 H' Γ2 fp') :
    Rel G C Hi' (σ2 ++ τ) H' (Γ2 ++ Δ) := by
  have h0 : ∀ a, (C.aside Hi H fp Γ.length c.live).H0 a = none → C.H0 a = none := fun a h => by
    have h : (if InFp fp Γ.length a then C.H0 a else H a) = none := h
    split at h
    · exact h
    · exact (c.fresh h).2
  -- a cell of the part put aside
  have prot : ∀ j a, j < (Γ ++ Δ).length → Γ.length ≤ j → a ∈ fp j → ∃ o, H a = some o ∧ (C.aside Hi H fp Γ.length c.live).H0 a = some o ∧ ¬ C.io a := fun j a hj hge ha => by
    obtain ⟨o, ho⟩ := c.trk hj ha
    have nin : ¬ InFp fp Γ.length a := fun ⟨i, hi, hm⟩ => by
      have := c.dj i j a (by simp; omega) hj hm ha
      omega
    refine ⟨o, ho, (if_neg nin).trans ho, ?_⟩
    obtain ⟨x, _, ok⟩ := c.sl j _ (List.getElem?_eq_getElem hj)
    have hs : (Γ ++ Δ)[j] ∈ Δ := by
      rw [List.getElem_append_right hge]
      exact List.getElem_mem _
    rcases pl _ hs with ⟨d, e⟩ | ⟨d, e⟩ | ⟨t, d, ht, e⟩
    · rw [e] at ok
      obtain ⟨z, _⟩ := ok
      rw [z] at ha; cases ha
    · rw [e] at ok
      obtain ⟨p, z, _, _, q⟩ := ok
      rw [z] at ha
      have : a = p := by simpa using ha
      subst this
      exact fun hio => C.iot a hio q
    · rw [e] at ok
      obtain ⟨p, _, _, q, _⟩ := ok
      rcases q a ha with q | ⟨q, _⟩
      · exact fun hio => C.iot a hio q
      · omega
  have nl := n.len
  refine ⟨fun j => if j < Γ2.length then fp' j else fp (j - Γ2.length + Γ.length), ?_⟩
  refine ⟨fun a o h hn => ?_, fun a h => ?_, n.imm, c.base.trans e, fun a o h => ?_, ?_, fun j s h => ?_, fun i j a hi hj h1 h2 => ?_, fun i a hi h => ?_⟩
  · refine n.frame a o ?_ hn
    show (if InFp fp Γ.length a then C.H0 a else H a) = some o
    split
    · exact h
    · exact c.frame a o h hn
  · refine n.live a fun q => h (h0 a q)
  · rcases n.ov a o h with q | q
    · exact c.ov a o q
    · exact .inr (h0 a q)
  · have := c.len
    simp at this ⊢
    omega
  · have hjl := (List.getElem?_eq_some_iff.mp h).1
    by_cases hj : j < Γ2.length
    · rw [List.getElem?_append_left hj] at h
      obtain ⟨x, h1, h2⟩ := n.sl j s h
      refine ⟨x, by rw [List.getElem?_append_left (by omega)]; exact h1, ?_⟩
      rw [if_pos hj]
      cases s with
      | no => exact h2
      | sh d => exact h2
      | ow d =>
        obtain ⟨p, e0, e1, e2, e3⟩ := h2
        exact ⟨p, e0, e1, e2, h0 p e3⟩
      | io d => exact h2
      | op t d =>
        obtain ⟨p, e1, e2, e3, e4⟩ := h2
        exact ⟨p, e1, e2, fun a ha => (e3 a ha).imp (h0 a) id, e4⟩
      | two a b => exact h2
    · rw [List.getElem?_append_right (by omega)] at h
      have hk : (Γ ++ Δ)[j - Γ2.length + Γ.length]? = some s := by
        rw [List.getElem?_append_right (by omega)]
        rw [show j - Γ2.length + Γ.length - Γ.length = j - Γ2.length by omega]
        exact h
      obtain ⟨x, h1, h2⟩ := c.sl _ s hk
      refine ⟨x, ?_, ?_⟩
      · rw [List.getElem?_append_right (by omega)]
        rw [List.getElem?_append_right (by omega)] at h1
        rw [show j - σ2.length = j - Γ2.length + Γ.length - σ.length by omega]
        exact h1
      · rw [if_neg hj]
        have hkl := (List.getElem?_eq_some_iff.mp hk).1
        refine h2.to e fun a ha => ?_
        obtain ⟨o, ho, ho', nio⟩ := prot _ a hkl (by omega) ha
        rw [ho]
        exact n.frame a o ho' nio
  · simp at hi hj
    by_cases ei : i < Γ2.length <;> by_cases ej : j < Γ2.length
    · rw [if_pos ei] at h1; rw [if_pos ej] at h2
      exact n.dj i j a ei ej h1 h2
    · rw [if_pos ei] at h1; rw [if_neg ej] at h2
      obtain ⟨o, ho, ho', nio⟩ := prot _ a (by simp; omega) (by omega) h2
      rcases n.home ei h1 with q | q
      · rw [ho'] at q; cases q
      · exact absurd q nio
    · rw [if_neg ei] at h1; rw [if_pos ej] at h2
      obtain ⟨o, ho, ho', nio⟩ := prot _ a (by simp; omega) (by omega) h1
      rcases n.home ej h2 with q | q
      · rw [ho'] at q; cases q
      · exact absurd q nio
    · rw [if_neg ei] at h1; rw [if_neg ej] at h2
      have := c.dj _ _ a (by simp; omega) (by simp; omega) h1 h2
      omega
  · simp at hi
    by_cases ei : i < Γ2.length
    · rw [if_pos ei] at h; exact n.av i a ei h
    · rw [if_neg ei] at h
      obtain ⟨o, ho, ho', nio⟩ := prot _ a (by simp; omega) (by omega) h
      cases q : Hi' a with
      | none => rfl
      | some u =>
        rcases n.ov a u q with z | z
        · have z : Hi a = some u := z
          rw [c.av _ a (by simp; omega) h] at z; cases z
        · rw [ho'] at z; cases z
end

section
variable {G : Gb} {C : Cf} {Hi Hi' H H' : Hp} {σ : St} {Γ : Ev} {W : WX}
def wNext : WS := fun Γ D _ => D.nx Γ
def wSeq (a b : WS) : WS := fun Γ D X => a Γ ⟨fun Γ1 => b Γ1 D X, D.rt, D.bk, D.ct⟩ X
def wBrk : WS := fun Γ D _ => D.bk Γ
def wCnt : WS := fun Γ D _ => D.ct Γ
def wDrop (w : WE) : WS := fun Γ D X => w Γ (fun _ Γ1 => D.nx Γ1) X
def wRet (w : WE) : WS := fun Γ D X => w Γ (fun r Γ1 => D.rt r Γ1) X
def wRetN : WS := fun Γ D _ => D.rt (.sh .none) Γ
def wIfS (c : WT) (a b : WS) : WS := fun Γ D X => c Γ (fun z Γ1 => if z = true then a Γ1 D X else b Γ1 D X) X
theorem sim_next : SimS G W tNext wNext := fun C Hi σ H Γ Dn Dd Xd c hw h1 _ _ _ _ => h1 σ H Hi Γ (Ext.refl _) c hw
theorem sim_seq {t u : TS} {a b : WS} (ha : SimS G W t a) (hb : SimS G W u b) : SimS G W (tSeq t u) (wSeq a b) := by
  intro C Hi σ H Γ Dn Dd Xd c hw h1 h2 h3 h4 h5
  refine ha C Hi σ H Γ _ _ Xd c hw (fun σ1 H1 Hi1 Γ1 e1 c1 q => ?_) h2 h3 h4 h5
  exact hb C Hi1 σ1 H1 Γ1 Dn Dd Xd c1 q (fun σ' H' Hi' Γ' e => h1 σ' H' Hi' Γ' (e1.trans e)) (fun v r σ' H' Hi' Γ' e => h2 v r σ' H' Hi' Γ' (e1.trans e))
    (fun σ' H' Hi' Γ' e => h3 σ' H' Hi' Γ' (e1.trans e)) (fun σ' H' Hi' Γ' e => h4 σ' H' Hi' Γ' (e1.trans e)) fun x c d σ' H' Hi' Γ' e => h5 x c d σ' H' Hi' Γ' (e1.trans e)
theorem Out.rel {v : V} {r : R} (o : Out G C Hi σ H Γ v r) : Rel G C Hi σ H Γ := by
  cases r with
  | sh d => exact o.1
  | vr i => exact o.1
  | ow d => exact o.2.trunc o.1
  | op t d => exact o.2.trunc o.1
theorem sim_drop {t : TE} {w : WE} (h : SimE G W t w) : SimS G W (tDrop t) (wDrop w) := fun C Hi σ H Γ Dn Dd Xd c hw h1 _ _ _ h5 =>
  h C Hi σ H Γ _ _ Xd c hw (fun v r H1 Hi1 Γ1 e1 o1 q => h1 σ H1 Hi1 Γ1 e1 o1.rel q) fun x c d => h5 x c d σ
theorem sim_ret {t : TE} {w : WE} (h : SimE G W t w) : SimS G W (tRet t) (wRet w) := fun C Hi σ H Γ Dn Dd Xd c hw _ h2 _ _ h5 =>
  h C Hi σ H Γ _ _ Xd c hw (fun v r H1 Hi1 Γ1 e1 o1 q => h2 v r σ H1 Hi1 Γ1 e1 o1 q) fun x c d => h5 x c d σ
theorem sim_ifS {tc : TT} {wc : WT} {t u : TS} {a b : WS} (hc : SimT G W tc wc) (ha : SimS G W t a) (hb : SimS G W u b) : SimS G W (tIfS tc t u) (wIfS wc a b) := by
  intro C Hi σ H Γ Dn Dd Xd c hw h1 h2 h3 h4 h5
  refine hc C Hi σ H Γ _ _ Xd c hw (fun z H1 Hi1 Γ1 e1 c1 q => ?_) fun x c d => h5 x c d σ
  cases z with
  | true =>
    exact ha C Hi1 σ H1 Γ1 Dn Dd Xd c1 q (fun σ' H' Hi' Γ' e => h1 σ' H' Hi' Γ' (e1.trans e)) (fun v r σ' H' Hi' Γ' e => h2 v r σ' H' Hi' Γ' (e1.trans e))
      (fun σ' H' Hi' Γ' e => h3 σ' H' Hi' Γ' (e1.trans e)) (fun σ' H' Hi' Γ' e => h4 σ' H' Hi' Γ' (e1.trans e)) fun x c d σ' H' Hi' Γ' e => h5 x c d σ' H' Hi' Γ' (e1.trans e)
  | false =>
    exact hb C Hi1 σ H1 Γ1 Dn Dd Xd c1 q (fun σ' H' Hi' Γ' e => h1 σ' H' Hi' Γ' (e1.trans e)) (fun v r σ' H' Hi' Γ' e => h2 v r σ' H' Hi' Γ' (e1.trans e))
      (fun σ' H' Hi' Γ' e => h3 σ' H' Hi' Γ' (e1.trans e)) (fun σ' H' Hi' Γ' e => h4 σ' H' Hi' Γ' (e1.trans e)) fun x c d σ' H' Hi' Γ' e => h5 x c d σ' H' Hi' Γ' (e1.trans e)

theorem set_far {α : Type} {l : List α} {i : Nat} {x : α} (h : ¬ i < l.length) : l.set i x = l := List.set_eq_of_length_le (by omega)
theorem Rel.setSh {i : Nat} {v : V} {d : D} (c : Rel G C Hi σ H Γ) (r : Rep G.K Hi v d) : Rel G C Hi (σ.set i (some v)) H (Γ.set i (.sh d)) := by
  by_cases hi : i < Γ.length
  · exact c.put_sh hi r
  · rw [set_far hi, set_far (by rw [← c.len]; exact hi)]; exact c
theorem Rel.setOw {i : Nat} {x : Option V} {s : Sl} (c : Rel G C Hi (σ ++ [x]) H (Γ ++ [s])) (hl : Γ.length = σ.length) : Rel G C Hi (σ.set i x) H (Γ.set i s) := by
  by_cases hi : i < Γ.length
  · exact c.move hl hi
  · rw [set_far hi, set_far (by rw [← hl]; exact hi)]; exact c.trunc hl
def setR (i : Nat) (r : R) (Γ : Ev) (k : Ev → Prop) : Prop := match r with
  | .sh d => k (Γ.set i (.sh d))
  | .ow d => k (Γ.set i (.ow d))
  | .vr j => frW (.vr j) Γ fun d Γ1 => k (Γ1.set i (.sh d))
  | .op t d => 10 ≤ t ∧ k (Γ.set i (.op t d))
def wSet (i : Nat) (w : WE) : WS := fun Γ D X => w Γ (fun r Γ1 => setR i r Γ1 D.nx) X
theorem Out.setR {v : V} {r : R} {i : Nat} {k : Ev → Prop} (o : Out G C Hi σ H Γ v r) (q : setR i r Γ k) : ∃ Hi' Γ', Ext Hi Hi' ∧ Rel G C Hi' (σ.set i (some v)) H Γ' ∧ k Γ' := by
  cases r with
  | sh d => exact ⟨Hi, _, Ext.refl _, o.1.setSh o.2, q⟩
  | ow d => exact ⟨Hi, _, Ext.refl _, o.2.setOw o.1, q⟩
  | vr j =>
    obtain ⟨d, Hi', Γ', e, c, r, q⟩ := o.share (k := fun d Γ1 => k (Γ1.set i (.sh d))) q
    exact ⟨Hi', _, e, c.setSh r, q⟩
  | op t d => exact ⟨Hi, _, Ext.refl _, o.2.setOw o.1, q.2⟩
theorem sim_set {t : TE} {w : WE} (i : Nat) (h : SimE G W t w) : SimS G W (tAsg t (gName i)) (wSet i w) := by
  intro C Hi σ H Γ Dn Dd Xd c hw h1 _ _ _ h5
  refine h C Hi σ H Γ _ _ Xd c hw (fun v r H1 Hi1 Γ1 e1 o1 q => ?_) fun x c d => h5 x c d σ
  obtain ⟨Hi2, Γ2, e2, c2, q2⟩ := o1.setR q
  exact h1 _ H1 Hi2 Γ2 (e1.trans e2) c2 q2

abbrev WG := D → Ev → (Ev → Prop) → Prop
def SimG (G : Gb) (g : TG) (w : WG) : Prop := ∀ (C : Cf) (Hi : Hp) (σ : St) (H : Hp) (Γ : Ev) (v : V) (d : D) (Q : St → Hp → Prop) (Qd : Ev → Prop), Rel G C Hi σ H Γ → Rep G.K Hi v d → w d Γ Qd →
  (∀ σ' Γ', Rel G C Hi σ' H Γ' → Qd Γ' → Q σ' H) → g v σ H Q
abbrev WGs := List D → Ev → (Ev → Prop) → Prop
def SimGs (G : Gb) (g : TGs) (w : WGs) : Prop := ∀ (C : Cf) (Hi : Hp) (σ : St) (H : Hp) (Γ : Ev) (vs : List V) (ds : List D) (Q : St → Hp → Prop) (Qd : Ev → Prop), Rel G C Hi σ H Γ → Reps G.K Hi vs ds → w ds Γ Qd →
  (∀ σ' Γ', Rel G C Hi σ' H Γ' → Qd Γ' → Q σ' H) → g vs σ H Q
def wgName (i : Nat) : WG := fun d Γ k => k (Γ.set i (.sh d))
theorem simg_name (i : Nat) : SimG G (gName i) (wgName i) := fun C Hi σ H Γ v d Q Qd c r hw h => h _ _ (c.setSh r) hw
def wgNil : WGs := fun ds Γ k => match ds with
  | [] => k Γ
  | _ => False
def wgCons (a : WG) (b : WGs) : WGs := fun ds Γ k => match ds with
  | [] => False
  | d :: r => a d Γ fun Γ1 => b r Γ1 k
theorem simg_nil : SimGs G gNil wgNil := by
  intro C Hi σ H Γ vs ds Q Qd c r hw h
  cases r with
  | nil => exact ⟨rfl, h _ _ c hw⟩
  | cons _ _ => exact hw.elim
theorem simg_cons {g : TG} {a : WG} {gs : TGs} {b : WGs} (ha : SimG G g a) (hb : SimGs G gs b) : SimGs G (gCons g gs) (wgCons a b) := by
  intro C Hi σ H Γ vs ds Q Qd c r hw h
  cases r with
  | nil => exact hw.elim
  | cons r1 rr => exact ⟨_, _, rfl, ha C Hi σ H Γ _ _ _ _ c r1 hw fun σ' Γ' c' q => hb C Hi σ' H Γ' _ _ _ _ c' rr q h⟩
def wgTup (n : Nat) (b : WGs) : WG := fun d Γ k => match d with
  | .tuple ds => ds.length = n ∧ b ds Γ k
  | _ => False
theorem simg_tup {n : Nat} {gs : TGs} {b : WGs} (hb : SimGs G gs b) : SimG G (gTup G.K n gs) (wgTup n b) := by
  intro C Hi σ H Γ v d Q Qd c r hw h
  cases r with
  | tup s r =>
    obtain ⟨hl, hw⟩ := hw
    exact ⟨_, _, rfl, SqT.of (c.imm _ _ s), by rw [r.length]; exact hl, hb C Hi σ H Γ _ _ _ _ c r hw h⟩
  | _ => exact hw.elim
def wAsg (w : WE) (g : WG) : WS := fun Γ D X => w Γ (fun r Γ1 => frW r Γ1 fun d Γ2 => g d Γ2 D.nx) X
theorem sim_asg {t : TE} {w : WE} {g : TG} {wg : WG} (h : SimE G W t w) (hg : SimG G g wg) : SimS G W (tAsg t g) (wAsg w wg) := by
  intro C Hi σ H Γ Dn Dd Xd c hw h1 _ _ _ h5
  refine h C Hi σ H Γ _ _ Xd c hw (fun v r H1 Hi1 Γ1 e1 o1 q => ?_) fun x c d => h5 x c d σ
  obtain ⟨d, Hi2, Γ2, e2, c2, r2, q2⟩ := o1.share q
  exact hg C Hi2 σ H1 Γ2 v d _ _ c2 r2 q2 fun σ' Γ' c' q' => h1 σ' H1 Hi2 Γ' (e1.trans e2) c' q'

def wAug (i : Nat) (o : Op2) (w : WE) : WS := fun Γ D X => match Γ[i]? with
  | some (.sh a) => w Γ (fun r Γ1 => rdW r Γ1 fun b => o a b fun r2 => setR i r2 Γ1 D.nx) X
  | _ => False
structure Items (K : Fg) (Hi : Hp) (J : It) (ds : List D) : Prop where
  stop : ∀ Hi' H i, Ext Hi Hi' → Ext Hi' H → ds.length ≤ i → J.stop i H
  go : ∀ Hi' H i, Ext Hi Hi' → Ext Hi' H → i < ds.length → J.go i H
  yld : ∀ Hi' H i x H' d, Ext Hi Hi' → Ext Hi' H → ds[i]? = some d → J.yld i H x H' → ∃ Hi2, Ext Hi' Hi2 ∧ Ext H H' ∧ Ext Hi2 H' ∧ (∀ a o, Hi2 a = some o → Hi' a = some o ∨ H a = none) ∧ Rep K Hi2 x d
abbrev WI := Ev → (List D → Ev → Prop) → XW → Prop
def SimI (G : Gb) (W : WX) (t : TI) (w : WI) : Prop := ∀ (C : Cf) (Hi : Hp) (σ : St) (H : Hp) (Γ : Ev) (R : It → Hp → Prop) (Qd : List D → Ev → Prop) (Xd : XW), Rel G C Hi σ H Γ → w Γ Qd Xd →
  (∀ J ds H' Hi' Γ', Ext Hi Hi' → Rel G C Hi' σ H' Γ' → Items G.K Hi' J ds → Qd ds Γ' → R J H') →
  (∀ x c d H' Hi' Γ', Ext Hi Hi' → Rel G C Hi' σ H' Γ' → G.xr x c d Hi' → Xd x Γ' → W c d σ H') → t σ H R
def loopW (g : WG) (b : WS) (D : WD) (X : XW) : List PyData → Ev → Prop
  | [], Γ => D.nx Γ
  | d :: ds, Γ => g d Γ fun Γ1 => b Γ1 ⟨loopW g b D X ds, D.rt, D.nx, loopW g b D X ds⟩ X
def wFor (wi : WI) (g : WG) (b : WS) : WS := fun Γ D X => wi Γ (fun ds Γ1 => loopW g b D X ds Γ1) X
theorem sim_for {ti : TI} {wi : WI} {g : TG} {wg : WG} {tb : TS} {wb : WS} (hi : SimI G W ti wi) (hg : SimG G g wg) (hb : SimS G W tb wb) : SimS G W (tFor ti g tb) (wFor wi wg wb) := by
  intro C Hi σ H Γ Dn Dd Xd c hw h1 h2 h3 h4 h5
  refine hi C Hi σ H Γ _ _ Xd c hw (fun J ds H1 Hi1 Γ1 e1 c1 it q => ?_) fun x c d => h5 x c d σ
  refine ⟨fun i m σ' H' => m = ds.length - i ∧ i ≤ ds.length ∧ ∃ Hi' Γ', Ext Hi1 Hi' ∧ Rel G C Hi' σ' H' Γ' ∧ loopW wg wb Dd Xd (ds.drop i) Γ', ⟨ds.length, by simp, Nat.zero_le _, Hi1, Γ1, Ext.refl _, c1, q⟩, ?_⟩
  rintro i m σ2 H2 ⟨rfl, hil, Hi2, Γ2, e2, c2, q2⟩
  by_cases hlt : i < ds.length
  · have hd : ds.drop i = ds[i] :: ds.drop (i + 1) := List.drop_eq_getElem_cons hlt
    rw [hd] at q2
    refine .inr ⟨it.go Hi2 H2 i e2 c2.imm hlt, fun σ' H' => ∃ Hi' Γ', Ext Hi1 Hi' ∧ Rel G C Hi' σ' H' Γ' ∧ loopW wg wb Dd Xd (ds.drop (i + 1)) Γ', fun σ' H' z => ⟨ds.length - (i + 1), by omega, rfl, hlt, z⟩, fun x H3 y => ?_⟩
    obtain ⟨Hi3, e3, k3, im3, ov3, r3⟩ := it.yld Hi2 H2 i x H3 ds[i] e2 c2.imm (List.getElem?_eq_getElem hlt) y
    have c3 := c2.grow k3 e3 im3 ov3
    refine hg C Hi3 σ2 H3 Γ2 x _ _ _ c3 r3 q2 fun σ4 Γ4 c4 q4 => ?_
    have f3 := (e1.trans e2).trans e3
    have f3' := e2.trans e3
    exact hb C Hi3 σ4 H3 Γ4 _ _ Xd c4 q4 (fun σ' H' Hi' Γ' e c' q' => ⟨Hi', Γ', f3'.trans e, c', q'⟩) (fun v r σ' H' Hi' Γ' e => h2 v r σ' H' Hi' Γ' (f3.trans e))
      (fun σ' H' Hi' Γ' e => h1 σ' H' Hi' Γ' (f3.trans e)) (fun σ' H' Hi' Γ' e c' q' => ⟨Hi', Γ', f3'.trans e, c', q'⟩) fun x c d σ' H' Hi' Γ' e => h5 x c d σ' H' Hi' Γ' (f3.trans e)
  · have e : i = ds.length := by omega
    subst e
    rw [List.drop_length] at q2
    exact .inl ⟨it.stop Hi2 H2 _ e2 c2.imm (Nat.le_refl _), h1 σ2 H2 Hi2 Γ2 (e1.trans e2) c2 q2⟩
def wiL (w : WE) : WI := fun Γ Q X => w Γ (fun r Γ1 => frW r Γ1 fun d Γ2 => isL d fun ds => Q ds Γ2) X
theorem Items.list {K : Fg} {a : Addr} {xs : List V} {ds : List D} (h : SqL K Hi a xs) (r : Reps K Hi xs ds) : Items K Hi (Itl K a) ds where
  stop := fun Hi' H i e k hi => ⟨xs, (e.trans k).sqL h, by rw [r.length]; exact hi⟩
  go := fun Hi' H i e k hi => by
    obtain ⟨v, h1, _⟩ := r.get (List.getElem?_eq_getElem hi)
    exact ⟨xs, v, (e.trans k).sqL h, h1⟩
  yld := fun Hi' H i x H' d e k hd y => by
    obtain ⟨rfl, y⟩ := y
    obtain ⟨v, h1, h2⟩ := r.get hd
    have := y xs ((e.trans k).sqL h)
    rw [h1] at this; cases this
    exact ⟨Hi', Ext.refl _, Ext.refl _, k, fun _ _ z => .inl z, h2.mono e⟩
theorem simi_list {t : TE} {w : WE} (h : SimE G W t w) : SimI G W (iList G.K t) (wiL w) := by
  intro C Hi σ H Γ R Qd Xd c hw hQ hX
  refine h C Hi σ H Γ _ _ Xd c hw (fun v r H1 Hi1 Γ1 e1 o1 q => ?_) hX
  obtain ⟨d, Hi2, Γ2, e2, c2, r2, q2⟩ := o1.share q
  obtain ⟨ds, rfl, q2⟩ := isL_inv q2
  cases r2 with
  | lst s r => exact ⟨_, rfl, ⟨_, SqL.of (c2.imm _ _ s)⟩, hQ _ ds H1 Hi2 Γ2 (e1.trans e2) c2 (.list (SqL.of s) r) q2⟩
def rangeD (lo : Int) (n : Nat) : List D := (List.range n).map fun (i : Nat) => .int (lo + (i : Int))
theorem rangeD_get {lo : Int} {n i : Nat} {d : D} (h : (rangeD lo n)[i]? = some d) : i < n ∧ d = .int (lo + (i : Int)) := by
  unfold rangeD at h
  rw [List.getElem?_map] at h
  by_cases hi : i < n
  · rw [List.getElem?_range hi] at h
    exact ⟨hi, (Option.some.inj h).symm⟩
  · rw [List.getElem?_eq_none (by simp; omega)] at h; cases h
theorem Items.range {K : Fg} {lo : Int} {n : Nat} : Items K Hi (Itr lo n) (rangeD lo n) where
  stop := fun Hi' H i e k hi => by
    have : n ≤ i := by simpa [rangeD] using hi
    exact this
  go := fun Hi' H i e k hi => by
    have : i < n := by simpa [rangeD] using hi
    exact this
  yld := fun Hi' H i x H' d e k hd y => by
    obtain ⟨rfl, rfl⟩ := y
    obtain ⟨_, rfl⟩ := rangeD_get hd
    exact ⟨Hi', Ext.refl _, Ext.refl _, k, fun _ _ z => .inl z, .int _⟩
def wiR1 (wa : WA) : WI := fun Γ Q X => wa Γ (fun rs Γ1 => rdAll rs Γ1 fun ds => match ds with
  | [.int j] => -(2 ^ 62) ≤ j ∧ j < 2 ^ 62 ∧ Q (rangeD 0 j.toNat) Γ1
  | _ => False) X
theorem simi_range1 {t : TA} {w : WA} (h : SimA G W t w) : SimI G W (iRng1 t) (wiR1 w) := by
  intro C Hi σ H Γ R Qd Xd c hw hQ hX
  refine h C Hi σ H Γ _ _ Xd c hw (fun vs rs H1 Hi1 Γ1 e1 c1 h1 q => ?_) hX
  obtain ⟨ds, bs, q⟩ := h1.read c1 q
  split at q
  · rename_i j
    obtain ⟨q1, q2, q⟩ := q
    cases bs with
    | cons b1 br =>
      cases br
      rw [b1.int]
      exact ⟨j, rfl, q1, q2, hQ _ _ H1 Hi1 Γ1 e1 c1 .range q⟩
  · exact q.elim
def wiR2 (wa : WA) : WI := fun Γ Q X => wa Γ (fun rs Γ1 => rdAll rs Γ1 fun ds => match ds with
  | [.int i, .int j] => (-(2 ^ 62) ≤ i ∧ i < 2 ^ 62 ∧ -(2 ^ 62) ≤ j ∧ j < 2 ^ 62) ∧ Q (rangeD i (j - i).toNat) Γ1
  | _ => False) X
def enumD (ds : List D) : List D := ds.mapIdx fun (i : Nat) d => .tuple [.int (i : Int), d]
theorem enumD_length (ds : List D) : (enumD ds).length = ds.length := by simp [enumD]
theorem enumD_get {ds : List D} {i : Nat} {d : D} (h : (enumD ds)[i]? = some d) : ∃ e, ds[i]? = some e ∧ d = .tuple [.int (i : Int), e] := by
  unfold enumD at h
  rw [List.getElem?_mapIdx] at h
  cases q : ds[i]? with
  | none => rw [q] at h; cases h
  | some e => rw [q] at h; exact ⟨e, rfl, (Option.some.inj h).symm⟩
theorem yld_tup {K : Fg} {T : Addr} {xs : List V} {ds : List D} (k : Ext Hi H) (hT : H T = none) (r : Reps K Hi xs ds) :
    ∃ Hi2, Ext Hi Hi2 ∧ Ext H (upd H T (.tup xs)) ∧ Ext Hi2 (upd H T (.tup xs)) ∧ (∀ a o, Hi2 a = some o → Hi a = some o ∨ H a = none) ∧ Rep K Hi2 (.ref T) (.tuple ds) := by
  have hn := k.none_of hT
  refine ⟨upd Hi T (.tup xs), Ext.new hn, Ext.new hT, fun a o h => ?_, fun a o h => ?_, .tup upd_same (r.mono (Ext.new hn))⟩
  · by_cases e : a = T
    · rw [e, upd_same] at h; rw [e, upd_same]; exact h
    · rw [upd_ne e] at h; rw [upd_ne e]; exact k a o h
  · by_cases e : a = T
    · rw [e]; exact .inr hT
    · rw [upd_ne e] at h; exact .inl h
theorem Items.enum {K : Fg} {a : Addr} {xs : List V} {ds : List D} (h : SqL K Hi a xs) (r : Reps K Hi xs ds) : Items K Hi (Ite K a) (enumD ds) where
  stop := fun Hi' H i e k hi => ⟨xs, (e.trans k).sqL h, by rw [r.length]; rw [enumD_length] at hi; exact hi⟩
  go := fun Hi' H i e k hi => by
    rw [enumD_length] at hi
    obtain ⟨v, h1, _⟩ := r.get (List.getElem?_eq_getElem hi)
    exact ⟨xs, v, (e.trans k).sqL h, h1⟩
  yld := fun Hi' H i x H' d e k hd y => by
    obtain ⟨T, w, rfl, hT, rfl, y⟩ := y
    obtain ⟨d', hd', rfl⟩ := enumD_get hd
    obtain ⟨v, h1, h2⟩ := r.get hd'
    have := y xs ((e.trans k).sqL h)
    rw [h1] at this; cases this
    exact yld_tup k hT (.cons (.int _) (.one (h2.mono e)))
def wiA (f : List D → List D) (wa : WA) : WI := fun Γ Q X => wa Γ (fun rs Γ1 => frAll rs Γ1 fun ds Γ2 => match ds with
  | [.list l] => Q (f l) Γ2
  | _ => False) X
theorem simi_enum {t : TA} {w : WA} (h : SimA G W t w) : SimI G W (iEnum G.K t) (wiA enumD w) := by
  intro C Hi σ H Γ R Qd Xd c hw hQ hX
  refine h C Hi σ H Γ _ _ Xd c hw (fun vs rs H1 Hi1 Γ1 e1 c1 h1 q => ?_) hX
  obtain ⟨ds, Hi2, Γ2, e2, c2, rp, q⟩ := h1.share (Ext.refl _) c1 q
  split at q
  · rename_i l
    cases rp with
    | cons r1 rr =>
      cases rr
      cases r1 with
      | lst s r => exact ⟨_, _, rfl, SqL.of (c2.imm _ _ s), hQ _ _ H1 Hi2 Γ2 (e1.trans e2) c2 (.enum (SqL.of s) r) q⟩
  · exact q.elim
theorem Items.zip {K : Fg} {a b : Addr} {xs ys : List V} {ds es : List D} (h : SqL K Hi a xs) (r : Reps K Hi xs ds) (h2 : SqL K Hi b ys) (r2 : Reps K Hi ys es) : Items K Hi (Itz K a b) (List.zipWith (fun x y => .tuple [x, y]) ds es) where
  stop := fun Hi' H i e k hi => ⟨xs, ys, (e.trans k).sqL h, (e.trans k).sqL h2, by
    have := r.length
    have := r2.length
    simp at hi
    omega⟩
  go := fun Hi' H i e k hi => by
    rw [List.length_zipWith] at hi
    obtain ⟨v, q1, _⟩ := r.get (List.getElem?_eq_getElem (show i < ds.length by omega))
    obtain ⟨w, q2, _⟩ := r2.get (List.getElem?_eq_getElem (show i < es.length by omega))
    exact ⟨xs, ys, v, w, (e.trans k).sqL h, (e.trans k).sqL h2, q1, q2⟩
  yld := fun Hi' H i x H' d e k hd y => by
    obtain ⟨T, x1, x2, rfl, hT, rfl, y1, y2⟩ := y
    rw [List.getElem?_zipWith] at hd
    cases q1 : ds[i]? with
    | none => rw [q1] at hd; cases hd
    | some d1 =>
      cases q2 : es[i]? with
      | none => rw [q1, q2] at hd; cases hd
      | some d2 =>
        rw [q1, q2] at hd
        cases hd
        obtain ⟨v, z1, z2⟩ := r.get q1
        obtain ⟨w, z3, z4⟩ := r2.get q2
        have := y1 xs ((e.trans k).sqL h)
        rw [z1] at this; cases this
        have := y2 ys ((e.trans k).sqL h2)
        rw [z3] at this; cases this
        exact yld_tup k hT (.cons (z2.mono e) (.one (z4.mono e)))
def wiZ (wa : WA) : WI := fun Γ Q X => wa Γ (fun rs Γ1 => frAll rs Γ1 fun ds Γ2 => match ds with
  | [.list l, .list m] => Q (List.zipWith (fun x y => .tuple [x, y]) l m) Γ2
  | _ => False) X
def signsD (z : Str) : List D := z.cps.toList.map fun c => .str ⟨#[c]⟩
theorem Items.str {K : Fg} {z : Str} : Items K Hi (Its z) (signsD z) where
  stop := fun Hi' H i e k hi => by
    have : z.cps.size ≤ i := by simpa [signsD] using hi
    exact this
  go := fun Hi' H i e k hi => by
    have : i < z.cps.size := by simpa [signsD] using hi
    exact this
  yld := fun Hi' H i x H' d e k hd y => by
    obtain ⟨rfl, c, hc, rfl⟩ := y
    unfold signsD at hd
    rw [List.getElem?_map, Array.getElem?_toList, hc] at hd
    cases hd
    exact ⟨Hi', Ext.refl _, Ext.refl _, k, fun _ _ z => .inl z, .str _⟩
def wiS (w : WE) : WI := fun Γ Q X => w Γ (fun r Γ1 => rdW r Γ1 fun d => isS d fun z => Q (signsD z) Γ1) X
theorem simi_str {t : TE} {w : WE} (h : SimE G W t w) : SimI G W (iStr t) (wiS w) := by
  intro C Hi σ H Γ R Qd Xd c hw hQ hX
  refine h C Hi σ H Γ _ _ Xd c hw (fun v r H1 Hi1 Γ1 e1 o1 q => ?_) hX
  obtain ⟨Hi2, e2, c2, h2⟩ := o1.hold
  obtain ⟨d, b1, q⟩ := h2.read c2 q
  obtain ⟨z, rfl, q⟩ := isS_inv q
  exact ⟨z, b1.str, hQ _ _ H1 Hi2 Γ1 (e1.trans e2) c2 .str q⟩

def whileN (c : WT) (b : WS) (D : WD) (X : XW) : Nat → Ev → Prop
  | 0, _ => False
  | n + 1, Γ => c Γ (fun z Γ1 => if z = true then b Γ1 ⟨whileN c b D X n, D.rt, D.nx, whileN c b D X n⟩ X else D.nx Γ1) X
def wWhile (c : WT) (b : WS) : WS := fun Γ D X => ∃ n, whileN c b D X n Γ
theorem sim_while {tc : TT} {wc : WT} {tb : TS} {wb : WS} (hc : SimT G W tc wc) (hb : SimS G W tb wb) : SimS G W (tWhile tc tb) (wWhile wc wb) := by
  intro C Hi σ H Γ Dn Dd Xd c hw h1 h2 h3 h4 h5
  obtain ⟨n, hw⟩ := hw
  refine ⟨fun m σ' H' => ∃ Hi' Γ', Ext Hi Hi' ∧ Rel G C Hi' σ' H' Γ' ∧ whileN wc wb Dd Xd m Γ', ⟨n, Hi, Γ, Ext.refl _, c, hw⟩, ?_⟩
  rintro m σ1 H1 ⟨Hi1, Γ1, e1, c1, q1⟩
  cases m with
  | zero => exact q1.elim
  | succ m =>
    refine hc C Hi1 σ1 H1 Γ1 _ _ Xd c1 q1 (fun z H2 Hi2 Γ2 e2 c2 q2 => ?_) fun x c d H' Hi' Γ' e => h5 x c d σ1 H' Hi' Γ' (e1.trans e)
    have f2 := e1.trans e2
    cases z with
    | true =>
      refine ⟨fun σ' H' => ∃ Hi' Γ', Ext Hi Hi' ∧ Rel G C Hi' σ' H' Γ' ∧ whileN wc wb Dd Xd m Γ', fun σ' H' z => ⟨m, Nat.lt_succ_self _, z⟩, ?_⟩
      exact hb C Hi2 σ1 H2 Γ2 _ _ Xd c2 q2 (fun σ' H' Hi' Γ' e c' q' => ⟨Hi', Γ', f2.trans e, c', q'⟩) (fun v r σ' H' Hi' Γ' e => h2 v r σ' H' Hi' Γ' (f2.trans e))
        (fun σ' H' Hi' Γ' e => h1 σ' H' Hi' Γ' (f2.trans e)) (fun σ' H' Hi' Γ' e c' q' => ⟨Hi', Γ', f2.trans e, c', q'⟩) fun x c d σ' H' Hi' Γ' e => h5 x c d σ' H' Hi' Γ' (f2.trans e)
    | false => exact h1 σ1 H2 Hi2 Γ2 f2 c2 q2
end
end VL

set_option Elab.async false
set_option linter.all false
set_option maxRecDepth 100000
namespace VL
open PySem L2

section
variable {X : Cx}
def rAddA (K : Fg) : R2 := fun x y H Q => rI0 (fun i j => .int (i + j)) x y H Q ∨ (∃ i j, x = .str i ∧ y = .str j ∧ i.length + j.length ≤ sizeLine ∧ Q (.str (i ++ j)) H) ∨ rCat x y H Q ∨
  (∃ i k, x = .int i ∧ y = .bl k ∧ Q (.int (i + PyProof.Rows.b2i k)) H)
theorem op_addA : OpR X (binaryOp .Add) (rAddA X.K) := op_add.or (op_add_str.or (op_cat.or op_add_ib))
def rMulA : R2 := fun x y H Q => rI CMulW (fun i j => .int (i * j)) x y H Q ∨ rRep x y H Q
theorem op_mulA : OpR X (binaryOp .Mult) rMulA := op_mulW.or op_rep
def rIxD : R2 := fun x y H Q => ∃ a v, x = .ref a ∧ DGet H a y (some v) ∧ Q v H
theorem ix_dict (hu : X.A.units + 1 < cLine) : IxR X rIxD := by
  intro value slice pins s σ H x y v u Q I rx ry h hs
  obtain ⟨a, z, rfl, g, q⟩ := h
  cases rx
  exact PyProof.Rows.tail_any (dict_typeIs I g) PySem.F.slot_dict_getitem.lookup (d_getItem hu I g ry fun w' s3 I3 rw' => ⟨z, H, I3, rw', q⟩) hs
def rIxA (K : Fg) : R2 := fun x y H Q => rIx K x y H Q ∨ rIxD x y H Q
theorem ix_any (hu : X.A.units + 1 < cLine) : IxR X (rIxA X.K) := ix_seq.or (ix_dict hu)
def rInDk : R2 := fun y x H Q => ∃ a o, x = .ref a ∧ DGet H a y o ∧ Q (.bl o.isSome) H
def rNotInDk : R2 := fun y x H Q => ∃ a o, x = .ref a ∧ DGet H a y o ∧ Q (.bl (!o.isSome)) H
theorem op_inDk (hu : X.A.units + 1 < cLine) : OpR X (compareOp .In) rInDk := by
  intro pins s σ H x y v u Q I rx ry h
  obtain ⟨a, o, rfl, g, q⟩ := h
  cases ry
  exact d_in hu I g rx fun s3 I3 => ⟨.bl o.isSome, H, I3, rfl, q⟩
theorem op_notInDk (hu : X.A.units + 1 < cLine) : OpR X (compareOp .NotIn) rNotInDk := by
  intro pins s σ H x y v u Q I rx ry h
  obtain ⟨a, o, rfl, g, q⟩ := h
  cases ry
  exact d_notIn hu I g rx fun s3 I3 => ⟨.bl (!o.isSome), H, I3, rfl, q⟩
def rInA (K : Fg) : R2 := fun x y H Q => rInD K x y H Q ∨ rIn K false x y H Q ∨ rInDk x y H Q ∨ (∃ (c : Nat) (z : Str), x = .str ⟨#[c]⟩ ∧ y = .str z ∧ Q (.bl (decide (c ∈ z.cps.toList))) H)
def rNotInA (K : Fg) : R2 := fun x y H Q => rNotInD K x y H Q ∨ rIn K true x y H Q ∨ rNotInDk x y H Q ∨ (∃ (c : Nat) (z : Str), x = .str ⟨#[c]⟩ ∧ y = .str z ∧ Q (.bl (!decide (c ∈ z.cps.toList))) H)
theorem op_inA (hu : X.A.units + 65 < cLine) : OpR X (compareOp .In) (rInA X.K) := (op_inD hu).or (op_in_seq.or ((op_inDk (by omega)).or op_in_sign))
theorem op_notInA (hu : X.A.units + 65 < cLine) : OpR X (compareOp .NotIn) (rNotInA X.K) := (op_notInD hu).or (op_notIn_seq.or ((op_notInDk (by omega)).or op_notIn_sign))
end

def keyEq : D → D → Bool
  | .int i, .int j => i == j
  | .str x, .str y => decide (x = y)
  | _, _ => false
def dget (ps : List (D × D)) (k : D) : Option D := (ps.find? fun p => keyEq p.1 k).map (·.2)
def dput (ps : List (D × D)) (k v : D) : List (D × D) := if ps.any (fun p => keyEq p.1 k) then ps.map fun p => if keyEq p.1 k = true then (p.1, v) else p else ps ++ [(k, v)]
def ddrop (ps : List (D × D)) (k : D) : List (D × D) := ps.filter fun p => !keyEq p.1 k
theorem keyEq_kD (a b : Key) : keyEq (kD a) (kD b) = decide (a = b) := by
  cases a with
  | inl i =>
    cases b with
    | inl j => rw [key_ll]; rfl
    | inr y => rw [key_lr]; rfl
  | inr x =>
    cases b with
    | inl j => rw [key_rl]; rfl
    | inr y => rw [key_rr]; rfl
def isK (d : D) (k : Prop) : Prop := match d with
  | .int _ => k
  | .str _ => k
  | _ => False
theorem isK_inv {d : D} {k : Prop} (h : isK d k) : (∃ key, d = kD key) ∧ k := by
  unfold isK at h
  split at h
  · exact ⟨⟨.inl _, rfl⟩, h⟩
  · exact ⟨⟨.inr _, rfl⟩, h⟩
  · exact h.elim
section
variable {K : Fg} {H Hi : Hp}
theorem dgetR {H : Hp} {a : Addr} {kvs : List (Key × V)} {k : Key} (e : Rd H a (.dK kvs)) : DGet H a (kV k) (valV kvs k) := .inl ⟨kvs, k, e, rfl, rfl⟩
theorem RepKV.get : ∀ {kvs : List (Key × V)} {ps : List (D × D)} {k : Key} {d : D}, RepKV K H kvs ps → dget ps (kD k) = some d → ∃ v, valV kvs k = some v ∧ Rep K H v d
  | _, _, k, d, .nil, e => by simp [dget] at e
  | _, _, k, d, @RepKV.cons _ _ k0 v0 kvs d0 ps h r, e => by
    by_cases hk : k0 = k
    · have h1 : keyEq (kD k0) (kD k) = true := by rw [keyEq_kD]; exact decide_eq_true hk
      have e2 : d0 = d := by simpa [dget, List.find?_cons, h1] using e
      subst e2
      exact ⟨v0, valV_pos hk, h⟩
    · have h1 : keyEq (kD k0) (kD k) = false := by rw [keyEq_kD]; exact decide_eq_false hk
      have e2 : dget ps (kD k) = some d := by simpa [dget, List.find?_cons, h1] using e
      obtain ⟨v, q1, q2⟩ := RepKV.get r e2
      exact ⟨v, by rw [valV_neg hk]; exact q1, q2⟩
theorem RepKV.none : ∀ {kvs : List (Key × V)} {ps : List (D × D)} {k : Key}, RepKV K H kvs ps → (dget ps (kD k) = none ↔ valV kvs k = none)
  | _, _, k, .nil => by simp [dget, valV]
  | _, _, k, @RepKV.cons _ _ k0 v0 kvs d0 ps h r => by
    by_cases hk : k0 = k
    · have h1 : keyEq (kD k0) (kD k) = true := by rw [keyEq_kD]; exact decide_eq_true hk
      have e1 : dget ((kD k0, d0) :: ps) (kD k) = some d0 := by simp [dget, List.find?_cons, h1]
      rw [e1, valV_pos (p := (k0, v0)) hk]
      simp
    · have h1 : keyEq (kD k0) (kD k) = false := by rw [keyEq_kD]; exact decide_eq_false hk
      have e1 : dget ((kD k0, d0) :: ps) (kD k) = dget ps (kD k) := by simp [dget, List.find?_cons, h1]
      rw [e1, valV_neg (p := (k0, v0)) hk]
      exact RepKV.none r
theorem RepKV.isSome {kvs : List (Key × V)} {ps : List (D × D)} {k : Key} (r : RepKV K H kvs ps) : (valV kvs k).isSome = (dget ps (kD k)).isSome := by
  cases e : dget ps (kD k) with
  | none => rw [r.none.mp e]; rfl
  | some d => obtain ⟨v, h, _⟩ := r.get e; rw [h]; rfl
theorem RepKV.any (k : Key) : ∀ {kvs : List (Key × V)} {ps : List (D × D)}, RepKV K H kvs ps → (kvs.any fun kv => decide (kv.1 = k)) = ps.any fun p => keyEq p.1 (kD k)
  | _, _, .nil => rfl
  | _, _, .cons _ r => by rw [List.any_cons, List.any_cons, RepKV.any k r, keyEq_kD]
theorem RepKV.repl {v : V} {d : D} (k : Key) (h : Rep K H v d) : ∀ {kvs : List (Key × V)} {ps : List (D × D)}, RepKV K H kvs ps →
    RepKV K H (kvs.map fun kv => if kv.1 = k then (kv.1, v) else kv) (ps.map fun p => if keyEq p.1 (kD k) = true then (p.1, d) else p)
  | _, _, .nil => .nil
  | _, _, @RepKV.cons _ _ k0 v0 kvs d0 ps h0 r => by
    rw [List.map_cons, List.map_cons]
    by_cases hk : k0 = k
    · have h1 : keyEq (kD k0) (kD k) = true := by rw [keyEq_kD]; exact decide_eq_true hk
      rw [if_pos hk, if_pos h1]
      exact .cons h (RepKV.repl k h r)
    · have h1 : ¬ keyEq (kD k0) (kD k) = true := by rw [keyEq_kD]; simpa using hk
      rw [if_neg hk, if_neg h1]
      exact .cons h0 (RepKV.repl k h r)
theorem RepKV.append : ∀ {kvs kvs' : List (Key × V)} {ps ps' : List (D × D)}, RepKV K H kvs ps → RepKV K H kvs' ps' → RepKV K H (kvs ++ kvs') (ps ++ ps')
  | _, _, _, _, .nil, s => s
  | _, _, _, _, .cons h r, s => .cons h (RepKV.append r s)
theorem RepKV.put {kvs : List (Key × V)} {ps : List (D × D)} {k : Key} {v : V} {d : D} (r : RepKV K H kvs ps) (h : Rep K H v d) : RepKV K H (putK kvs k v) (dput ps (kD k) d) := by
  unfold putK dput
  rw [r.any k]
  split
  · exact r.repl k h
  · exact r.append (.cons h .nil)
theorem RepKV.drop (k : Key) : ∀ {kvs : List (Key × V)} {ps : List (D × D)}, RepKV K H kvs ps → RepKV K H (dropK kvs k) (ddrop ps (kD k))
  | _, _, .nil => .nil
  | _, _, @RepKV.cons _ _ k0 v0 kvs d0 ps h r => by
    unfold dropK ddrop
    by_cases hk : k0 = k
    · have h1 : keyEq (kD k0) (kD k) = true := by rw [keyEq_kD]; exact decide_eq_true hk
      rw [List.filter_cons_of_neg (by simpa using hk), List.filter_cons_of_neg (by simp [h1])]
      exact RepKV.drop k r
    · have h1 : keyEq (kD k0) (kD k) = false := by rw [keyEq_kD]; exact decide_eq_false hk
      rw [List.filter_cons_of_pos (by simpa using hk), List.filter_cons_of_pos (by simp [h1])]
      exact .cons h (RepKV.drop k r)
theorem RepKV.length : ∀ {kvs : List (Key × V)} {ps : List (D × D)}, RepKV K H kvs ps → kvs.length = ps.length
  | _, _, .nil => rfl
  | _, _, .cons _ r => congrArg (· + 1) (RepKV.length r)
theorem Rep.key {y : V} {k : Key} (h : Rep K H y (kD k)) : y = kV k := by
  cases k with
  | inl i => cases h; rfl
  | inr x => cases h; rfl
theorem Rdb.key {y : V} {k : Key} (h : Rdb K Hi H y (kD k)) : y = kV k := by
  rcases h with h | ⟨p, _, h⟩
  · exact h.key
  · cases k <;> cases h
end

section
variable {G : Gb} {C : Cf} {Hi Hi' H H' : Hp} {σ : St} {Γ : Ev} {W : WX}
def oAdd : Op2 := fun a b k => match a, b with
  | .int i, .int j => k (.sh (.int (i + j)))
  | .str x, .str y => x.length + y.length ≤ sizeLine ∧ k (.sh (.str (x ++ y)))
  | .list xs, .list ys => xs.length + ys.length ≤ sizeLine ∧ k (.ow (.list (xs ++ ys)))
  | .int i, .bool b => k (.sh (.int (i + PyProof.Rows.b2i b)))
  | _, _ => False
theorem sem_add : Sem2 G (rAddA G.K) oAdd := by
  intro C Hi σ H Γ x y a b k Q c ha hb h q
  unfold oAdd at h
  split at h
  · exact .inl ⟨_, _, ha.int, hb.int, q _ _ H Hi (Ext.refl _) (out_int c _) h⟩
  · exact .inr (.inl ⟨_, _, ha.str, hb.str, h.1, q _ _ H Hi (Ext.refl _) (out_str c _) h.2⟩)
  · obtain ⟨p, xs, e1, s1, r1⟩ := ha.list c.imm
    obtain ⟨p', ys, e2, s2, r2⟩ := hb.list c.imm
    refine .inr (.inr (.inl ⟨p, p', xs, ys, e1, e2, s1, s2, by rw [r1.length, r2.length]; exact h.1, fun t ht => q _ _ _ Hi (Ext.refl _) (Out.newL c ht (r1.append r2)) h.2⟩))
  · exact .inr (.inr (.inr ⟨_, _, ha.int, hb.bl, q _ _ H Hi (Ext.refl _) (out_int c _) h⟩))
  · exact h.elim
theorem sem_sub : Sem2 G (rI0 fun i j => .int (i - j)) (oII (fun _ _ => True) (· - ·)) := sem_II0
def oMul : Op2 := fun a b k => match a, b with
  | .int i, .int j => CMulW i j ∧ k (.sh (.int (i * j)))
  | .list l, .int j => (-(2 ^ 63) ≤ j ∧ j < 2 ^ 63) ∧ l.length * j.toNat ≤ sizeLine ∧ k (.ow (.list (List.replicate j.toNat l).flatten))
  | _, _ => False
theorem sem_mul : Sem2 G rMulA oMul := by
  intro C Hi σ H Γ x y a b k Q c ha hb h q
  unfold oMul at h
  split at h
  · exact .inl ⟨_, _, ha.int, hb.int, h.1, q _ _ H Hi (Ext.refl _) (out_int c _) h.2⟩
  · obtain ⟨p, xs, rfl, s1, r1⟩ := ha.list c.imm
    exact .inr ⟨p, _, xs, rfl, hb.int, s1, h.1.1, h.1.2, by rw [r1.length]; exact h.2.1, fun p' hp => q _ _ _ Hi (Ext.refl _) (Out.newL c hp (r1.repl _)) h.2.2⟩
  · exact h.elim
theorem sem_fdiv : Sem2 G (rI CDivW fun i j => .int (i / j)) (oII CDivW (· / ·)) := sem_II (fun _ _ h => h) fun _ _ _ => rfl
theorem sem_mod : Sem2 G (rI (fun _ j => 0 < j) fun i j => .int (i % j)) (oII (fun _ j => 0 < j) (· % ·)) := sem_II (fun _ _ h => h) fun _ _ _ => rfl
theorem sem_neg : Sem1 G (rU fun i => .int (-i)) (fun a k => isI a fun i => k (.sh (.int (-i)))) := by
  intro C Hi σ H Γ x a k Q c ha h q
  obtain ⟨i, rfl, h⟩ := isI_inv h
  exact ⟨i, ha.int, q _ _ H Hi (Ext.refl _) (out_int c _) h⟩
def oIx : Op2 := fun a b k => match a with
  | .list l => isI b fun i => match atI l i with
    | some d => k (.sh d)
    | none => False
  | .tuple l => isI b fun i => match atI l i with
    | some d => k (.sh d)
    | none => False
  | .str z => isI b fun i => z.length ≤ sizeLine ∧ match atI z.cps.toList i with
    | some c => k (.sh (.str ⟨#[c]⟩))
    | none => False
  | .dict ps => isK b (match dget ps b with
    | some d => k (.sh d)
    | none => False)
  | _ => False
theorem atI_rep {K : Fg} {xs : List V} {ds : List D} {i : Int} {d : D} (r : Reps K Hi xs ds) (h : atI ds i = some d) : ∃ v, atI xs i = some v ∧ Rep K Hi v d := by
  unfold atI at h ⊢
  rw [r.length]
  obtain ⟨j, h1, h2⟩ := Option.bind_eq_some_iff.mp h
  obtain ⟨v, h3, h4⟩ := r.get h2
  exact ⟨v, by rw [h1]; exact h3, h4⟩
theorem sem_ix : Sem2 G (rIxA G.K) oIx := by
  intro C Hi σ H Γ x y a b k Q c ha hb h q
  unfold oIx at h
  split at h
  · obtain ⟨i, rfl, h1⟩ := isI_inv h
    split at h1
    · rename_i d e
      obtain ⟨p, xs, e1, s1, r1⟩ := ha.list c.imm
      obtain ⟨v, e2, r2⟩ := atI_rep r1 e
      exact .inl (.inl ⟨p, xs, i, v, e1, hb.int, SqL.of s1, e2, q v (.sh d) H Hi (Ext.refl _) ⟨c, r2⟩ h1⟩)
    · exact h1.elim
  · obtain ⟨i, rfl, h1⟩ := isI_inv h
    split at h1
    · rename_i d e
      obtain ⟨p, xs, e1, s1, r1⟩ := ha.tuple c.imm
      obtain ⟨v, e2, r2⟩ := atI_rep r1 e
      exact .inl (.inr (.inl ⟨p, xs, i, v, e1, hb.int, SqT.of s1, e2, q v (.sh d) H Hi (Ext.refl _) ⟨c, r2⟩ h1⟩))
    · exact h1.elim
  · obtain ⟨i, rfl, hz, h1⟩ := isI_inv h
    split at h1
    · rename_i z d e
      exact .inl (.inr (.inr ⟨_, i, d, ha.str, hb.int, hz, e, q _ _ H Hi (Ext.refl _) (out_str c _) h1⟩))
    · exact h1.elim
  · obtain ⟨⟨key, rfl⟩, h1⟩ := isK_inv h
    split at h1
    · rename_i d e
      obtain ⟨p, kvs, e1, s1, r1⟩ := ha.dict c.imm
      obtain ⟨v, e2, r2⟩ := r1.get e
      refine .inr ⟨p, v, e1, ?_, q v (.sh d) H Hi (Ext.refl _) ⟨c, r2⟩ h1⟩
      rw [hb.key, ← e2]
      exact dgetR s1
    · exact h1.elim
  · exact h.elim
def flatD : D → Bool
  | .none => true
  | .bool _ => true
  | .int _ => true
  | .str _ => true
  | _ => false
theorem flat_v {K : Fg} {x : V} {d : D} (h : Rep K Hi x d) (f : flatD d = true) : flatV x = true := by
  cases h <;> first | rfl | cases f
theorem flat_eq {K : Fg} {x y : V} {d e : D} (h : Rep K Hi x d) (h2 : Rep K Hi y e) (f : flatD d = true) (f2 : flatD e = true) : eqV x y = PyData.eqv d e := by
  cases h <;> cases h2 <;> first | rfl | (simp [eqV, PyData.eqv]; done) | cases f | cases f2
theorem flat_all {K : Fg} : ∀ {xs : List V} {ds : List D}, Reps K Hi xs ds → ds.all flatD = true → xs.all flatV = true
  | _, _, .nil, _ => rfl
  | _, _, .cons h r, f => by
    rw [List.all_cons, Bool.and_eq_true] at f ⊢
    exact ⟨flat_v h f.1, flat_all r f.2⟩
theorem flat_in {K : Fg} {x : V} {d : D} (h : Rep K Hi x d) (f : flatD d = true) : ∀ {xs : List V} {ds : List D}, Reps K Hi xs ds → ds.all flatD = true → inV x xs = ds.any fun z => PyData.eqv z d
  | _, _, .nil, _ => rfl
  | _, _, .cons h1 r, g => by
    rw [List.all_cons, Bool.and_eq_true] at g
    have ih := flat_in h f r g.2
    unfold inV at ih ⊢
    rw [List.any_cons, List.any_cons, ih, flat_eq h1 h g.1 f]
def oIn (neg : Bool) : Op2 := fun a b k => match b with
  | .list ds => SeqAt.shaped a = true ∧ SeqAt.shaped (.list ds) = true ∧ k (.sh (.bool (if neg then !(ds.any fun z => PyData.eqv z a) else ds.any fun z => PyData.eqv z a)))
  | .tuple ds => flatD a = true ∧ ds.all flatD = true ∧ k (.sh (.bool (if neg then !(ds.any fun z => PyData.eqv z a) else ds.any fun z => PyData.eqv z a)))
  | .dict ps => isK a (k (.sh (.bool (if neg then !(dget ps a).isSome else (dget ps a).isSome))))
  | .str z => isS a fun y => ∃ c, y = ⟨#[c]⟩ ∧ k (.sh (.bool (if neg then !decide (c ∈ z.cps.toList) else decide (c ∈ z.cps.toList))))
  | _ => False
theorem Rdb.flat {K : Fg} {x : V} {d : D} (h : Rdb K Hi H x d) (f : flatD d = true) : Rep K Hi x d := by
  rcases h with h | ⟨p, _, h⟩
  · exact h
  · cases h <;> cases f
theorem sem_in : Sem2 G (rInA G.K) (oIn false) := by
  intro C Hi σ H Γ x y a b k Q c ha hb h q
  unfold oIn at h
  split at h
  · obtain ⟨s1, s2, h⟩ := h
    exact .inl ⟨a, _, ha.dp c.imm s1, hb.dp c.imm s2, s1, s2, q _ _ H Hi (Ext.refl _) (out_bl c _) h⟩
  · obtain ⟨s1, s2, h⟩ := h
    obtain ⟨p, xs, e1, t1, r1⟩ := hb.tuple c.imm
    refine .inr (.inl ⟨p, xs, e1, .inr (SqT.of t1), flat_v (ha.flat s1) s1, flat_all r1 s2, ?_⟩)
    rw [flat_in (ha.flat s1) s1 r1 s2]
    exact q _ _ H Hi (Ext.refl _) (out_bl c _) h
  · obtain ⟨⟨key, rfl⟩, h1⟩ := isK_inv h
    obtain ⟨p, kvs, e1, t1, r1⟩ := hb.dict c.imm
    refine .inr (.inr (.inl ⟨p, _, e1, by rw [ha.key]; exact dgetR t1, ?_⟩))
    rw [r1.isSome]
    exact q _ _ H Hi (Ext.refl _) (out_bl c _) h1
  · obtain ⟨z, rfl, ch, rfl, h1⟩ := isS_inv h
    exact .inr (.inr (.inr ⟨ch, _, ha.str, hb.str, q _ _ H Hi (Ext.refl _) (out_bl c _) h1⟩))
  · exact h.elim
theorem sem_notin : Sem2 G (rNotInA G.K) (oIn true) := by
  intro C Hi σ H Γ x y a b k Q c ha hb h q
  unfold oIn at h
  split at h
  · obtain ⟨s1, s2, h⟩ := h
    exact .inl ⟨a, _, ha.dp c.imm s1, hb.dp c.imm s2, s1, s2, q _ _ H Hi (Ext.refl _) (out_bl c _) h⟩
  · obtain ⟨s1, s2, h⟩ := h
    obtain ⟨p, xs, e1, t1, r1⟩ := hb.tuple c.imm
    refine .inr (.inl ⟨p, xs, e1, .inr (SqT.of t1), flat_v (ha.flat s1) s1, flat_all r1 s2, ?_⟩)
    rw [flat_in (ha.flat s1) s1 r1 s2]
    exact q _ _ H Hi (Ext.refl _) (out_bl c _) h
  · obtain ⟨⟨key, rfl⟩, h1⟩ := isK_inv h
    obtain ⟨p, kvs, e1, t1, r1⟩ := hb.dict c.imm
    refine .inr (.inr (.inl ⟨p, _, e1, by rw [ha.key]; exact dgetR t1, ?_⟩))
    rw [r1.isSome]
    exact q _ _ H Hi (Ext.refl _) (out_bl c _) h1
  · obtain ⟨z, rfl, ch, rfl, h1⟩ := isS_inv h
    exact .inr (.inr (.inr ⟨ch, _, ha.str, hb.str, q _ _ H Hi (Ext.refl _) (out_bl c _) h1⟩))
  · exact h.elim

def SimO (G : Gb) (W : WX) (t : TO) (w : Ev → (Option Int → Ev → Prop) → XW → Prop) : Prop := ∀ (C : Cf) (Hi : Hp) (σ : St) (H : Hp) (Γ : Ev) (Q : Option Int → Hp → Prop) (Qd : Option Int → Ev → Prop) (Xd : XW), Rel G C Hi σ H Γ → w Γ Qd Xd →
  (∀ o H' Hi' Γ', Ext Hi Hi' → Rel G C Hi' σ H' Γ' → Qd o Γ' → Q o H') →
  (∀ x c d H' Hi' Γ', Ext Hi Hi' → Rel G C Hi' σ H' Γ' → G.xr x c d Hi' → Xd x Γ' → W c d σ H') → t σ H Q
abbrev WO := Ev → (Option Int → Ev → Prop) → XW → Prop
def wNoP : WO := fun Γ Q _ => Q none Γ
def wPart (w : WE) : WO := fun Γ Q X => w Γ (fun r Γ1 => rdW r Γ1 fun d => isI d fun i => Q (some i) Γ1) X
theorem simo_none : SimO G W tNoPart wNoP := fun C Hi σ H Γ Q Qd Xd c hw hQ hX => hQ none H Hi Γ (Ext.refl _) c hw
theorem simo_some {t : TE} {w : WE} (h : SimE G W t w) : SimO G W (tPart t) (wPart w) := by
  intro C Hi σ H Γ Q Qd Xd c hw hQ hX
  refine h C Hi σ H Γ _ _ Xd c hw (fun v r H1 Hi1 Γ1 e1 o1 q => ?_) hX
  obtain ⟨Hi2, e2, c2, h2⟩ := o1.hold
  obtain ⟨d, b1, q⟩ := h2.read c2 q
  obtain ⟨i, rfl, q⟩ := isI_inv q
  exact ⟨i, b1.int, hQ _ H1 Hi2 Γ1 (e1.trans e2) c2 q⟩
def cutD (xs : List D) (lo hi : Option Int) : List D := (xs.drop (HT.sIx xs.length 0 lo)).take (HT.sIx xs.length xs.length hi - HT.sIx xs.length 0 lo)
theorem cut_rep {K : Fg} {xs : List V} {ds : List D} (r : Reps K Hi xs ds) (lo hi : Option Int) : Reps K Hi (cutV xs lo hi) (cutD ds lo hi) := by
  unfold cutV cutD
  rw [r.length]
  exact (r.drop _).take _
def wSlL (wa : WE) (wl wh : WO) : WE := fun Γ Q X => wa Γ (fun r Γ1 => wl Γ1 (fun lo Γ2 => wh Γ2 (fun hi Γ3 => rdW r Γ3 fun d => isL d fun ds => Q (.ow (.list (cutD ds lo hi))) Γ3) X) X) X
theorem sim_slL {te : TE} {wa : WE} {tl th : TO} {wl wh : WO} (ha : SimE G W te wa) (h1 : SimO G W tl wl) (h2 : SimO G W th wh) : SimE G W (tSl (rSlL G.K) te tl th) (wSlL wa wl wh) := by
  intro C Hi σ H Γ Q Qd Xd c hw hQ hX
  refine ha C Hi σ H Γ _ _ Xd c hw (fun v1 r1 H1 Hi1 Γ1 e1 o1 q1 => ?_) hX
  obtain ⟨Hi2, e2, c2, hh2⟩ := o1.hold
  have f2 := e1.trans e2
  refine h1 C Hi2 σ H1 Γ1 _ _ Xd c2 q1 (fun lo H3 Hi3 Γ3 e3 c3 q3 => ?_) fun x c d H' Hi' Γ' e' => hX x c d H' Hi' Γ' (f2.trans e')
  refine h2 C Hi3 σ H3 Γ3 _ _ Xd c3 q3 (fun hi H4 Hi4 Γ4 e4 c4 q4 => ?_) fun x c d H' Hi' Γ' e' => hX x c d H' Hi' Γ' ((f2.trans e3).trans e')
  obtain ⟨d, b, q5⟩ := (hh2.mono (e3.trans e4)).read c4 q4
  obtain ⟨ds, rfl, q5⟩ := isL_inv q5
  obtain ⟨p, xs, e5, s5, r5⟩ := b.list c4.imm
  exact ⟨p, xs, e5, SqL.of s5, fun t ht => hQ _ _ _ Hi4 Γ4 ((f2.trans e3).trans e4) (Out.newL c4 ht (cut_rep r5 lo hi)) q5⟩

def o1 (o : Op1) : OpN := fun ds k => match ds with
  | [d] => o d k
  | _ => False
def o2 (o : Op2) : OpN := fun ds k => match ds with
  | [a, b] => o a b k
  | _ => False
theorem semN_1 {r : List V → Hp → VK → Prop} {o : Op1} (h : ∀ {C : Cf} {Hi : Hp} {σ : St} {H : Hp} {Γ : Ev} {x : V} {a : D} {k : R → Prop} {Q : VK}, Rel G C Hi σ H Γ → Rdb G.K Hi H x a → o a k →
    (∀ v r H' Hi', Ext Hi Hi' → Out G C Hi' σ H' Γ v r → k r → Q v H') → r [x] H Q) : SemN G r (o1 o) := by
  intro C Hi σ H Γ xs ds k Q c hb hw q
  cases hb with
  | nil => exact hw.elim
  | cons b1 br =>
    cases br with
    | nil => exact h c b1 hw q
    | cons b2 br => exact hw.elim
theorem semN_2 {r : List V → Hp → VK → Prop} {o : Op2} (h : ∀ {C : Cf} {Hi : Hp} {σ : St} {H : Hp} {Γ : Ev} {x y : V} {a b : D} {k : R → Prop} {Q : VK}, Rel G C Hi σ H Γ → Rdb G.K Hi H x a → Rdb G.K Hi H y b → o a b k →
    (∀ v r H' Hi', Ext Hi Hi' → Out G C Hi' σ H' Γ v r → k r → Q v H') → r [x, y] H Q) : SemN G r (o2 o) := by
  intro C Hi σ H Γ xs ds k Q c hb hw q
  cases hb with
  | nil => exact hw.elim
  | cons b1 br =>
    cases br with
    | nil => exact hw.elim
    | cons b2 br =>
      cases br with
      | nil => exact h c b1 b2 hw q
      | cons b3 br => exact hw.elim
def oLen : Op1 := fun d k => match d with
  | .list l => k (.sh (.int l.length))
  | .tuple l => k (.sh (.int l.length))
  | .str z => z.length ≤ sizeLine ∧ k (.sh (.int z.length))
  | .dict ps => k (.sh (.int ps.length))
  | _ => False
def rLenA (K : Fg) : List V → Hp → VK → Prop := fun xs H Q => (∃ x n, xs = [x] ∧ LenV K x H n ∧ Q (.int n) H) ∨ ∃ d kvs, xs = [.ref d] ∧ Rd H d (.dK kvs) ∧ Q (.int kvs.length) H
end
end VL

set_option Elab.async false
set_option linter.all false
set_option maxRecDepth 100000
namespace VL
open PySem L2

def rIntA : List V → Hp → VK → Prop := fun xs H Q => (∃ i, xs = [.int i] ∧ Q (.int i) H) ∨ ∃ k, xs = [.bl k] ∧ Q (.int (if k then 1 else 0)) H
def rMax2A : List V → Hp → VK → Prop := fun xs H Q => ∃ i j, xs = [.int i, .int j] ∧ Q (.int (if j > i then j else i)) H
def rMin2A : List V → Hp → VK → Prop := fun xs H Q => ∃ i j, xs = [.int i, .int j] ∧ Q (.int (if j < i then j else i)) H
def rListA (K : Fg) : List V → Hp → VK → Prop := fun xs H Q => ∃ p ys, xs = [.ref p] ∧ (SqL K H p ys ∨ SqT K H p ys) ∧ ∀ l, H l = none → Q (.ref l) (upd H l (.lst ys))
section
variable {X : Cx}
theorem call_lenR : CallR X (.builtin "len") (fun xs H Q => ∃ d kvs, xs = [V.ref d] ∧ Rd H d (.dK kvs) ∧ Q (.int kvs.length) H) := by
  intro pins s σ H xs us Q I r h
  obtain ⟨d, kvs, rfl, hd, q⟩ := h
  obtain ⟨u, rfl, ru⟩ := vals1 r
  cases ru
  exact d_len I hd fun t s' I' => ⟨.int kvs.length, H, I', ⟨t, rfl⟩, q⟩
theorem call_lenA : CallR X (.builtin "len") (rLenA X.K) := CallR.or call_len call_lenR
theorem call_intA : CallR X (.type "int") rIntA := call_int1
theorem call_max2A (hc : X.calm = true) : CallR X (.builtin "max") rMax2A := call_max2 hc
theorem call_min2A (hc : X.calm = true) : CallR X (.builtin "min") rMin2A := call_min2 hc
theorem call_listA : CallR X (.type "list") (rListA X.K) := call_list_of
end
section
variable {G : Gb} {C : Cf} {Hi Hi' H H' : Hp} {σ : St} {Γ : Ev} {W : WX}
theorem sem_len : SemN G (rLenA G.K) (o1 oLen) := by
  refine semN_1 ?_
  intro C Hi σ H Γ x a k Q c ha h q
  unfold oLen at h
  split at h
  · obtain ⟨p, xs, rfl, s1, r1⟩ := ha.list c.imm
    refine .inl ⟨_, xs.length, rfl, .inl ⟨xs, SqL.of s1, rfl⟩, ?_⟩
    rw [r1.length]
    exact q _ _ H Hi (Ext.refl _) (out_int c _) h
  · obtain ⟨p, xs, rfl, s1, r1⟩ := ha.tuple c.imm
    refine .inl ⟨_, xs.length, rfl, .inr ⟨xs, SqT.of s1, rfl⟩, ?_⟩
    rw [r1.length]
    exact q _ _ H Hi (Ext.refl _) (out_int c _) h
  · rename_i z
    have e := ha.str
    subst e
    exact .inl ⟨_, z.length, rfl, ⟨h.1, rfl⟩, q _ _ H Hi (Ext.refl _) (out_int c _) h.2⟩
  · obtain ⟨p, kvs, rfl, s1, r1⟩ := ha.dict c.imm
    refine .inr ⟨p, kvs, rfl, s1, ?_⟩
    rw [r1.length]
    exact q _ _ H Hi (Ext.refl _) (out_int c _) h
  · exact h.elim

def tyN : D → String
  | .none => "NoneType"
  | .bool _ => "bool"
  | .int _ => "int"
  | .str _ => "str"
  | .list _ => "list"
  | .tuple _ => "tuple"
  | .dict _ => "dict"
def tyNs : List String := ["NoneType", "bool", "int", "str", "list", "tuple", "dict"]
theorem tyN_mem (d : D) : tyN d ∈ tyNs := by cases d <;> simp [tyN, tyNs]
def isT (a T : String) : Bool := decide (a = T) || (decide (T = "int") && decide (a = "bool"))
theorem ty_x {K : Fg} {x : V} {d : D} (h : Rep K H x d) : TyX K H x (.type (tyN d)) := by
  cases h with
  | non => exact .base .non
  | bl b => exact .base (.bl b)
  | int i => exact .base (.int i)
  | str z => exact .base (.str z)
  | lst h _ => exact .base (.lst h)
  | tup h _ => exact .base (.tup h)
  | dct h _ =>
    rcases h with h | ⟨o, h⟩
    · exact .base (.dK h)
    · exact .fDict h
def KitOk (T : String) : Prop := ∀ a ∈ tyNs, kitB a T = some (isT a T)
theorem kit_int : KitOk "int" := by unfold KitOk tyNs; decide +kernel
theorem kit_bool : KitOk "bool" := by unfold KitOk tyNs; decide +kernel
theorem kit_str : KitOk "str" := by unfold KitOk tyNs; decide +kernel
theorem kit_list : KitOk "list" := by unfold KitOk tyNs; decide +kernel
theorem kit_tuple : KitOk "tuple" := by unfold KitOk tyNs; decide +kernel
def wIsi (T : String) (w : WE) : WE := fun Γ Q X => w Γ (fun r Γ1 => rdW r Γ1 fun d => Q (.sh (.bool (isT (tyN d) T))) Γ1) X
theorem sim_isi {t : TE} {w : WE} {T : String} (hT : KitOk T) (h : SimE G W t w) : SimE G W (tCB (rIsi G.K) (tCons t (tCons (tC (.ty T)) tNil))) (wIsi T w) := by
  intro C Hi σ H Γ Q Qd Xd c hw hQ hX
  refine h C Hi σ H Γ _ _ Xd c hw (fun v r H1 Hi1 Γ1 e1 o1 q => ?_) hX
  obtain ⟨Hi2, e2, c2, h2⟩ := o1.hold
  obtain ⟨d, b1, q⟩ := h2.read c2 q
  exact ⟨v, .ty T, _, _, _, rfl, .ty T, ty_x (b1.rep c2.imm), kit_ty (hT _ (tyN_mem d)), hQ _ _ H1 Hi2 Γ1 (e1.trans e2) (out_bl c2 _) q⟩
def wIsi2 (T U : String) (w : WE) : WE := fun Γ Q X => w Γ (fun r Γ1 => rdW r Γ1 fun d => Q (.sh (.bool (isT (tyN d) T || isT (tyN d) U))) Γ1) X
theorem sim_isi2 {t : TE} {w : WE} {T U : String} (hT : KitOk T) (hU : KitOk U) (h : SimE G W t w) : SimE G W (tCB (rIsiT G.K) (tCons t (tCons (tTup (tCons (tC (.ty T)) (tCons (tC (.ty U)) tNil))) tNil))) (wIsi2 T U w) := by
  intro C Hi σ H Γ Q Qd Xd c hw hQ hX
  refine h C Hi σ H Γ _ _ Xd c hw (fun v r H1 Hi1 Γ1 e1 o1 q => ?_) hX
  obtain ⟨Hi2, e2, c2, h2⟩ := o1.hold
  obtain ⟨d, b1, q⟩ := h2.read c2 q
  refine ⟨le_line (show 2 ≤ 1000 by decide), fun p hp => ⟨v, p, _, _, _, isT (tyN d) T || isT (tyN d) U, rfl, upd_same, .cons (.ty T) (.cons (.ty U) .nil), ty_x ((b1.rep c2.imm).mono (Ext.new hp)), ?_, ?_⟩⟩
  · refine kitAny_cons (kit_ty (hT _ (tyN_mem d))) (fun e => ?_) (fun e => by rw [e]; rfl)
    rw [e, Bool.false_or]
    exact kitAny_cons (kit_ty (hU _ (tyN_mem d))) (fun e => by rw [e]; exact kitAny_nil) (fun e => by rw [e])
  · exact hQ _ _ _ Hi2 Γ1 (e1.trans e2) (out_bl (c2.grow (Ext.new hp) (Ext.refl _) (c2.imm.trans (Ext.new hp)) fun _ _ z => .inl z) _) q

theorem reps_bools {K : Fg} : ∀ {bs : List Bool} {xs : List V}, Reps K Hi xs (bs.map .bool) → xs = bs.map .bl
  | [], _, h => by cases h; rfl
  | b :: bs, _, h => by
    cases h with
    | cons h r => cases h; rw [reps_bools r]; rfl
theorem ints_reps {K : Fg} : ∀ bs : List Int, Reps K Hi (bs.map .int) (bs.map .int)
  | [] => .nil
  | b :: bs => .cons (.int b) (ints_reps bs)
def oAll : Op1 := fun d k => isL d fun l => ∃ bs : List Bool, l = bs.map .bool ∧ k (.sh (.bool (bs.all id)))
theorem sem_all : SemN G (rAll G.K) (o1 oAll) := by
  refine semN_1 ?_
  intro C Hi σ H Γ x a k Q c ha h q
  obtain ⟨l, rfl, bs, rfl, h1⟩ := isL_inv h
  obtain ⟨p, xs, rfl, s1, r1⟩ := ha.list c.imm
  exact ⟨p, bs, rfl, SqL.of (by rw [s1, reps_bools r1]), q _ _ H Hi (Ext.refl _) (out_bl c _) h1⟩
def oInt : Op1 := fun d k => match d with
  | .int i => k (.sh (.int i))
  | .bool b => k (.sh (.int (if b then 1 else 0)))
  | _ => False
theorem sem_int : SemN G rIntA (o1 oInt) := by
  refine semN_1 ?_
  intro C Hi σ H Γ x a k Q c ha h q
  unfold oInt at h
  split at h
  · exact .inl ⟨_, by rw [ha.int], q _ _ H Hi (Ext.refl _) (out_int c _) h⟩
  · exact .inr ⟨_, by rw [ha.bl], q _ _ H Hi (Ext.refl _) (out_int c _) h⟩
  · exact h.elim
def oMax : Op2 := fun a b k => isI a fun i => isI b fun j => k (.sh (.int (if j > i then j else i)))
def oMin : Op2 := fun a b k => isI a fun i => isI b fun j => k (.sh (.int (if j < i then j else i)))
theorem sem_max : SemN G rMax2A (o2 oMax) := by
  refine semN_2 ?_
  intro C Hi σ H Γ x y a b k Q c ha hb h q
  obtain ⟨i, rfl, h1⟩ := isI_inv h
  obtain ⟨j, rfl, h2⟩ := isI_inv h1
  exact ⟨i, j, by rw [ha.int, hb.int], q _ _ H Hi (Ext.refl _) (out_int c _) h2⟩
theorem sem_min : SemN G rMin2A (o2 oMin) := by
  refine semN_2 ?_
  intro C Hi σ H Γ x y a b k Q c ha hb h q
  obtain ⟨i, rfl, h1⟩ := isI_inv h
  obtain ⟨j, rfl, h2⟩ := isI_inv h1
  exact ⟨i, j, by rw [ha.int, hb.int], q _ _ H Hi (Ext.refl _) (out_int c _) h2⟩
def oList : Op1 := fun d k => match d with
  | .list l => k (.ow (.list l))
  | .tuple l => k (.ow (.list l))
  | _ => False
theorem sem_list : SemN G (rListA G.K) (o1 oList) := by
  refine semN_1 ?_
  intro C Hi σ H Γ x a k Q c ha h q
  unfold oList at h
  split at h
  · obtain ⟨p, xs, rfl, s1, r1⟩ := ha.list c.imm
    exact ⟨p, xs, rfl, .inl (SqL.of s1), fun l hl => q _ _ _ Hi (Ext.refl _) (Out.newL c hl r1) h⟩
  · obtain ⟨p, xs, rfl, s1, r1⟩ := ha.tuple c.imm
    exact ⟨p, xs, rfl, .inr (SqT.of s1), fun l hl => q _ _ _ Hi (Ext.refl _) (Out.newL c hl r1) h⟩
  · exact h.elim
theorem repKV_keysI {K : Fg} : ∀ {kvs : List (Key × V)} {ps : List (D × D)} {ks : List Int}, RepKV K H kvs ps → ps.map (·.1) = ks.map .int → kvs.map (·.1) = ks.map Sum.inl
  | _, _, ks, .nil, e => by
    cases ks with
    | nil => rfl
    | cons k ks => cases e
  | _, _, ks, @RepKV.cons _ _ k0 v0 kvs d0 ps h r, e => by
    cases ks with
    | nil => cases e
    | cons k ks =>
      rw [List.map_cons, List.map_cons] at e
      injection e with e1 e2
      rw [List.map_cons, List.map_cons, repKV_keysI r e2]
      cases k0 with
      | inl i => cases e1; rfl
      | inr x => cases e1
def isD (d : D) (k : List (D × D) → Prop) : Prop := match d with
  | .dict ps => k ps
  | _ => False
theorem isD_inv {d : D} {k : List (D × D) → Prop} (h : isD d k) : ∃ ps, d = .dict ps ∧ k ps := by
  unfold isD at h; split at h
  · exact ⟨_, rfl, h⟩
  · exact h.elim
theorem Rel.write {i : Nat} {d d' : D} {o : HO} {p : Addr} (c : Rel G C Hi σ H Γ) (h : Γ[i]? = some (.ow d)) (hp : σ[i]? = some (some (.ref p))) (ow : Own G.K Hi (upd H p o) p d') :
    Rel G C Hi σ (upd H p o) (Γ.set i (.ow d')) := by
  obtain ⟨fp, c⟩ := c
  obtain ⟨x, hx, p', hf, e, w, h0⟩ := c.sl i _ h
  rw [e, hp] at hx
  have ep : p' = p := by injection hx with h1; injection h1 with h1; injection h1 with h1; exact h1.symm
  subst ep
  have hi : i < Γ.length := (List.getElem?_eq_some_iff.mp h).1
  have hin : Hi p' = none := c.av i p' hi (by rw [hf]; simp)
  have hs : σ.set i (some (.ref p')) = σ := by
    obtain ⟨hl, e1⟩ := List.getElem?_eq_some_iff.mp hp
    rw [← e1]; exact List.set_getElem_self hl
  have st := c.step (H' := upd H p' o) (Hi' := Hi) (x := some (.ref p')) (l := [p']) (s := .ow d') hi (Ext.refl _)
    (fun a u hu hn => by rw [upd_ne (fun z => hn (by rw [hf, z]; simp))]; exact hu)
    (fun a ha => by
      rw [hf] at ha
      have : a = p' := by simpa using ha
      rw [this, upd_same]; simp)
    (fun a u hu => by
      have : a ≠ p' := fun z => by rw [z, hin] at hu; cases hu
      rw [upd_ne this]; exact c.imm a u hu)
    (fun _ _ z => .inl z) ⟨p', rfl, rfl, ow, h0⟩
    (fun a ha => by
      have : a = p' := by simpa using ha
      subst this
      exact ⟨hin, fun j hj hne hm => hne (c.dj j i a hj hi hm (by rw [hf]; simp))⟩)
    (fun j a hj hne ha => c.av j a hj ha)
  rw [hs] at st
  exact ⟨_, st⟩
theorem Rel.writeIo {i : Nat} {d d' : D} {o : HO} {p : Addr} (c : Rel G C Hi σ H Γ) (h : Γ[i]? = some (.io d)) (hp : σ[i]? = some (some (.ref p))) (ow : Own G.K Hi (upd H p o) p d') :
    Rel G C Hi σ (upd H p o) (Γ.set i (.io d')) := by
  obtain ⟨fp, c⟩ := c
  obtain ⟨x, hx, p', hf, e, w, h0⟩ := c.sl i _ h
  rw [e, hp] at hx
  have ep : p' = p := by injection hx with h1; injection h1 with h1; injection h1 with h1; exact h1.symm
  subst ep
  have hi : i < Γ.length := (List.getElem?_eq_some_iff.mp h).1
  have hin : Hi p' = none := c.av i p' hi (by rw [hf]; simp)
  have hs : σ.set i (some (.ref p')) = σ := by
    obtain ⟨hl, e1⟩ := List.getElem?_eq_some_iff.mp hp
    rw [← e1]; exact List.set_getElem_self hl
  have st := c.step (H' := upd H p' o) (Hi' := Hi) (x := some (.ref p')) (l := [p']) (s := .io d') hi (Ext.refl _)
    (fun a u hu hn => by rw [upd_ne (fun z => hn (by rw [hf, z]; simp))]; exact hu)
    (fun a ha => by
      rw [hf] at ha
      have : a = p' := by simpa using ha
      rw [this, upd_same]; simp)
    (fun a u hu => by
      have : a ≠ p' := fun z => by rw [z, hin] at hu; cases hu
      rw [upd_ne this]; exact c.imm a u hu)
    (fun _ _ z => .inl z) ⟨p', rfl, rfl, ow, h0⟩
    (fun a ha => by
      have : a = p' := by simpa using ha
      subst this
      exact ⟨hin, fun j hj hne hm => hne (c.dj j i a hj hi hm (by rw [hf]; simp))⟩)
    (fun j a hj hne ha => c.av j a hj ha)
  rw [hs] at st
  exact ⟨_, st⟩
def owW (i : Nat) (Γ : Ev) (k : D → (D → Ev) → Prop) : Prop := match Γ[i]? with
  | some (.ow d) => k d fun d' => Γ.set i (.ow d')
  | some (.io d) => k d fun d' => Γ.set i (.io d')
  | _ => False
theorem Rel.owned {i : Nat} {k : D → (D → Ev) → Prop} (c : Rel G C Hi σ H Γ) (h : owW i Γ k) : ∃ d p f, σ[i]? = some (some (.ref p)) ∧ Own G.K Hi H p d ∧ k d f ∧
    ∀ d' o, Own G.K Hi (upd H p o) p d' → Rel G C Hi σ (upd H p o) (f d') := by
  unfold owW at h
  split at h
  · rename_i d e
    obtain ⟨p, h1, h2⟩ := c.at_ow e
    exact ⟨d, p, _, h1, h2, h, fun d' o ow => c.write e h1 ow⟩
  · rename_i d e
    obtain ⟨p, h1, h2⟩ := c.at_io e
    exact ⟨d, p, _, h1, h2, h, fun d' o ow => c.writeIo e h1 ow⟩
  · exact h.elim
abbrev OpM := List D → List D → (List D → D → Prop) → Prop
def SemM (G : Gb) (r : V → List V → Hp → VK → Prop) (f : OpM) : Prop := ∀ {Hi H : Hp} {p : Addr} {vs xs : List V} {l ds : List D} {k : List D → D → Prop} {Q : VK}, H p = some (.lst vs) → Reps G.K Hi vs l → Reps G.K Hi xs ds → f l ds k →
  (∀ v d vs' l', Reps G.K Hi vs' l' → Rep G.K Hi v d → k l' d → Q v (upd H p (.lst vs'))) → r (.ref p) xs H Q
def wMut (i : Nat) (f : OpM) (wa : WA) : WE := fun Γ Q X => owW i Γ fun d _ => isL d fun _ => wa Γ (fun rs Γ1 => frAll rs Γ1 fun ds Γ2 => owW i Γ2 fun d f' => isL d fun l => f l ds fun l' r => Q (.sh r) (f' (.list l'))) X
theorem sim_mut {r : V → List V → Hp → VK → Prop} {f : OpM} {ta : TA} {wa : WA} (i : Nat) (hr : SemM G r f) (ha : SimA G W ta wa) : SimE G W (tBM G.K "list" r (tVar i) ta) (wMut i f wa) := by
  intro C Hi σ H Γ Q Qd Xd c hw hQ hX
  obtain ⟨d0, p, _, hp, ow0, hw, _⟩ := c.owned hw
  obtain ⟨l0, rfl, hw⟩ := isL_inv hw
  cases ow0 with
  | lst hl0 _ =>
    refine ⟨.ref p, hp, .inl ⟨rfl, _, SqL.of hl0⟩, ha C Hi σ H Γ _ _ Xd c hw (fun vs rs H1 Hi1 Γ1 e1 c1 h1 q1 => ?_) hX⟩
    obtain ⟨ds, Hi2, Γ2, e2, c2, r2, q2⟩ := h1.share (Ext.refl _) c1 q1
    obtain ⟨d, p', f', hp', ow, q3, put⟩ := c2.owned q2
    rw [hp] at hp'; cases hp'
    obtain ⟨l, rfl, q3⟩ := isL_inv q3
    cases ow with
    | lst hl rl =>
      refine hr hl rl r2 q3 fun v d vs' l' r' rv q4 => hQ v (.sh d) _ Hi2 _ (e1.trans e2) ⟨put _ _ (.lst upd_same r'), rv⟩ q4
def wMut0 (i : Nat) (f : OpM) : WE := fun Γ Q X => owW i Γ fun d f' => isL d fun l => f l [] fun l' r => Q (.sh r) (f' (.list l'))
theorem sim_mut0 {r : V → List V → Hp → VK → Prop} {f : OpM} (i : Nat) (hr : SemM G r f) : SimE G W (tBM0 G.K "list" r (tVar i)) (wMut0 i f) := by
  intro C Hi σ H Γ Q Qd Xd c hw hQ hX
  obtain ⟨d0, p, f', hp, ow0, hw, put⟩ := c.owned hw
  obtain ⟨l0, rfl, hw⟩ := isL_inv hw
  cases ow0 with
  | lst hl rl =>
    exact ⟨.ref p, hp, .inl ⟨rfl, _, SqL.of hl⟩, hr hl rl .nil hw fun v d vs' l' r' rv q4 => hQ v (.sh d) _ Hi _ (Ext.refl _) ⟨put _ _ (.lst upd_same r'), rv⟩ q4⟩
def fAppend : OpM := fun l ds k => match ds with
  | [x] => l.length < sizeLine ∧ k (l ++ [x]) .none
  | _ => False
theorem sem_append : SemM G rAppend fAppend := by
  intro Hi H p vs xs l ds k Q h r ra hw q
  cases ra with
  | nil => exact hw.elim
  | cons r1 rr =>
    cases rr with
    | nil => exact ⟨p, vs, _, rfl, rfl, h, by rw [r.length]; exact hw.1, q _ _ _ _ (r.append (.one r1)) .non hw.2⟩
    | cons _ _ => exact hw.elim
def fPop : OpM := fun l ds k => match ds with
  | [] => match l.getLast? with
    | some x => k l.dropLast x
    | none => False
  | [.int i] => match ixN l.length i with
    | some j => match l[j]? with
      | some x => l.length < 2 ^ 62 ∧ k (l.eraseIdx j) x
      | none => False
    | none => False
  | _ => False
theorem sem_pop : SemM G (fun x vs H Q => rPop x vs H Q ∨ rPopAt x vs H Q) fPop := by
  intro Hi H p vs xs l ds k Q h r ra hw q
  unfold fPop at hw
  split at hw
  · cases ra
    split at hw
    · rename_i x e
      rw [List.getLast?_eq_getElem?] at e
      obtain ⟨v, h1, h2⟩ := r.get e
      refine .inl ⟨p, vs, v, rfl, rfl, h, by rw [r.length]; exact h1, q _ _ _ _ r.dropLast h2 hw⟩
    · exact hw.elim
  · rename_i i
    cases ra with
    | cons r1 rr =>
      cases rr
      cases r1
      split at hw
      · rename_i j ej
        split at hw
        · rename_i x e
          obtain ⟨v, h1, h2⟩ := r.get e
          obtain ⟨s1, s2, s3, s4⟩ := ixN_seq ej
          have := hw.1
          refine .inr ⟨p, vs, i, j, v, rfl, rfl, h, by omega, by omega, by rw [r.length]; exact s1, h1, q _ _ _ _ (r.eraseIdx j) h2 hw.2⟩
        · exact hw.elim
      · exact hw.elim
  · exact hw.elim
end
end VL

set_option Elab.async false
set_option linter.all false
set_option maxRecDepth 100000
namespace VL
open PySem L2

section
variable {G : Gb} {C : Cf} {Hi Hi' H H' : Hp} {σ : St} {Γ : Ev} {W : WX}
def wDict0 : WE := fun Γ Q _ => Q (.ow (.dict [])) Γ
theorem sim_dict0 : SimE G W tDNewK wDict0 := fun C Hi σ H Γ Q Qd Xd c hw hQ hX p hp => hQ _ _ _ Hi Γ (Ext.refl _) (Out.new c hp (.dct upd_same .nil)) hw
def wDGet1 (wd wk : WE) : WE := fun Γ Q X => wd Γ (fun r Γ1 => rdW r Γ1 fun d => isD d fun _ => wk Γ1 (fun rk Γ2 => rdW r Γ2 fun d => isD d fun ps => rdW rk Γ2 fun key => isK key (Q (.sh ((dget ps key).getD .none)) Γ2)) X) X
theorem RepKV.getD {K : Fg} {kvs : List (Key × V)} {ps : List (D × D)} {k : Key} {v : V} {d : D} (r : RepKV K Hi kvs ps) (h : Rep K Hi v d) : Rep K Hi ((valV kvs k).getD v) ((dget ps (kD k)).getD d) := by
  cases e : dget ps (kD k) with
  | none => rw [r.none.mp e]; exact h
  | some d' => obtain ⟨v', h1, h2⟩ := r.get e; rw [h1]; exact h2
def wDGet2 (wd wk wx : WE) : WE := fun Γ Q X => wd Γ (fun r Γ1 => rdW r Γ1 fun d => isD d fun _ => wk Γ1 (fun rk Γ2 => wx Γ2 (fun rx Γ3 => frW rx Γ3 fun dx Γ4 =>
  rdW r Γ4 fun d => isD d fun ps => rdW rk Γ4 fun key => isK key (Q (.sh ((dget ps key).getD dx)) Γ4)) X) X) X
theorem sim_dget2 {td ty tx : TE} {wd wk wx : WE} (hd : SimE G W td wd) (hk : SimE G W ty wk) (hx : SimE G W tx wx) : SimE G W (tDGet2 td ty tx) (wDGet2 wd wk wx) := by
  intro C Hi σ H Γ Q Qd Xd c hw hQ hX
  refine hd C Hi σ H Γ _ _ Xd c hw (fun v1 r1 H1 Hi1 Γ1 e1 o1 q1 => ?_) hX
  obtain ⟨Hi2, e2, c2, h2⟩ := o1.hold
  obtain ⟨d, b1, q2⟩ := h2.read c2 q1
  obtain ⟨ps, rfl, q2⟩ := isD_inv q2
  obtain ⟨p, kvs, rfl, s1, rr⟩ := b1.dict c2.imm
  have f2 := e1.trans e2
  refine ⟨p, rfl, .inl ⟨kvs, s1⟩, hk C Hi2 σ H1 Γ1 _ _ Xd c2 q2 (fun v3 r3 H3 Hi3 Γ3 e3 o3 q3 => ?_) fun x c d H' Hi' Γ' e' => hX x c d H' Hi' Γ' (f2.trans e')⟩
  obtain ⟨Hi4, e4, c4, h4⟩ := o3.hold
  have f4 := (f2.trans e3).trans e4
  refine hx C Hi4 σ H3 Γ3 _ _ Xd c4 q3 (fun v5 r5 H5 Hi5 Γ5 e5 o5 q5 => ?_) fun x c d H' Hi' Γ' e' => hX x c d H' Hi' Γ' (f4.trans e')
  obtain ⟨dx, Hi6, Γ6, e6, c6, rx, q6⟩ := o5.share q5
  have f56 := e5.trans e6
  obtain ⟨d1, b1, q7⟩ := (h2.mono ((e3.trans e4).trans f56)).read c6 q6
  obtain ⟨ps', rfl, q7⟩ := isD_inv q7
  obtain ⟨d2, b2, q8⟩ := (h4.mono f56).read c6 q7
  obtain ⟨⟨key, rfl⟩, q8⟩ := isK_inv q8
  obtain ⟨p', kvs', e7, s7, r7⟩ := b1.dict c6.imm
  cases e7
  exact ⟨_, by rw [b2.key]; exact dgetR s7, hQ _ (.sh _) H5 Hi6 Γ6 (f4.trans f56) ⟨c6, r7.getD rx⟩ q8⟩
def wDPut (i : Nat) (wk wv : WE) : WS := fun Γ D X => wv Γ (fun rv Γ1 => owW i Γ1 fun _ _ => wk Γ1 (fun rk Γ2 => frW rv Γ2 fun dv Γ3 => rdW rk Γ3 fun key => isK key (owW i Γ3 fun d f => isD d fun ps => ps.length < sizeLine ∧ D.nx (f (.dict (dput ps key dv))))) X) X
theorem sim_dput {ty tv : TE} {wk wv : WE} (i : Nat) (hk : SimE G W ty wk) (hv : SimE G W tv wv) : SimS G W (sDPut (tVar i) ty tv) (wDPut i wk wv) := by
  intro C Hi σ H Γ Dn Dd Xd c hw h1 _ _ _ h5
  refine hv C Hi σ H Γ _ _ Xd c hw (fun v1 r1 H1 Hi1 Γ1 e1 o1 q1 => ?_) fun x c d => h5 x c d σ
  obtain ⟨Hi2, e2, c2, h2⟩ := o1.hold
  have f2 := e1.trans e2
  obtain ⟨_, p, _, hp, _, q1, _⟩ := c2.owned q1
  refine ⟨_, hp, hk C Hi2 σ H1 Γ1 _ _ Xd c2 q1 (fun v3 r3 H3 Hi3 Γ3 e3 o3 q3 => ?_) fun x c d H' Hi' Γ' e' => h5 x c d σ H' Hi' Γ' (f2.trans e')⟩
  obtain ⟨Hi4, e4, c4, h4⟩ := o3.hold
  obtain ⟨dv, Hi5, Γ5, e5, c5, rv, q5⟩ := (h2.mono (e3.trans e4)).share c4 q3
  obtain ⟨dk, bk, q6⟩ := (h4.mono e5).read c5 q5
  obtain ⟨⟨k, rfl⟩, q6'⟩ := isK_inv q6
  obtain ⟨d, p', f', hp', ow, q7, put⟩ := c5.owned q6'
  rw [hp] at hp'; cases hp'
  obtain ⟨ps, rfl, hl, q8⟩ := isD_inv q7
  cases ow with
  | dct hd rd =>
    refine ⟨p, _, rfl, by rw [bk.key]; exact DPut.k hd (by rw [rd.length]; exact hl), ?_⟩
    exact h1 σ _ Hi5 _ (((f2.trans e3).trans e4).trans e5) (put _ _ (.dct upd_same (rd.put rv))) q8
def wLPut (i : Nat) (wk wv : WE) : WS := fun Γ D X => wv Γ (fun rv Γ1 => owW i Γ1 fun _ _ => wk Γ1 (fun rk Γ2 => frW rv Γ2 fun dv Γ3 => rdW rk Γ3 fun key => isI key fun n => owW i Γ3 fun d f => isL d fun l =>
  match ixN l.length n with
  | some j => D.nx (f (.list (l.set j dv)))
  | none => False) X) X
theorem sim_lput {ty tv : TE} {wk wv : WE} (i : Nat) (hk : SimE G W ty wk) (hv : SimE G W tv wv) : SimS G W (tAsg tv (gSub (tVar i) ty rSetL)) (wLPut i wk wv) := by
  intro C Hi σ H Γ Dn Dd Xd c hw h1 _ _ _ h5
  refine hv C Hi σ H Γ _ _ Xd c hw (fun v1 r1 H1 Hi1 Γ1 e1 o1 q1 => ?_) fun x c d => h5 x c d σ
  obtain ⟨Hi2, e2, c2, h2⟩ := o1.hold
  have f2 := e1.trans e2
  obtain ⟨_, p, _, hp, _, q1, _⟩ := c2.owned q1
  refine ⟨_, hp, hk C Hi2 σ H1 Γ1 _ _ Xd c2 q1 (fun v3 r3 H3 Hi3 Γ3 e3 o3 q3 => ?_) fun x c d H' Hi' Γ' e' => h5 x c d σ H' Hi' Γ' (f2.trans e')⟩
  obtain ⟨Hi4, e4, c4, h4⟩ := o3.hold
  obtain ⟨dv, Hi5, Γ5, e5, c5, rv, q5⟩ := (h2.mono (e3.trans e4)).share c4 q3
  obtain ⟨dk, bk, q6⟩ := (h4.mono e5).read c5 q5
  obtain ⟨n, rfl, q6'⟩ := isI_inv q6
  obtain ⟨d, p', f', hp', ow, q7, put⟩ := c5.owned q6'
  rw [hp] at hp'; cases hp'
  obtain ⟨l, rfl, q8⟩ := isL_inv q7
  cases ow with
  | lst hl rl =>
    split at q8
    · rename_i j ej
      refine ⟨p, _, n, j, rfl, bk.int, hl, by rw [rl.length]; exact ej, ?_⟩
      exact h1 σ _ Hi5 _ (((f2.trans e3).trans e4).trans e5) (put _ _ (.lst upd_same (rl.set rv j))) q8
    · exact q8.elim
def wExt (i : Nat) (w : WE) : WE := fun Γ Q X => owW i Γ fun d _ => isL d fun _ => w Γ (fun r Γ1 => frW r Γ1 fun d Γ2 => isL d fun ys => owW i Γ2 fun d f => isL d fun l => l.length + ys.length ≤ sizeLine ∧ Q (.sh .none) (f (.list (l ++ ys)))) X
def slW (r : R) (Γ : Ev) (k : Sl → Ev → Prop) : Prop := match r with
  | .sh d => k (.sh d) Γ
  | .ow d => k (.ow d) Γ
  | .vr i => frW (.vr i) Γ fun d Γ1 => k (.sh d) Γ1
  | .op t d => 10 ≤ t ∧ k (.op t d) Γ
abbrev WSl := Ev → (List Sl → Ev → Prop) → XW → Prop
def wsNil : WSl := fun Γ Q _ => Q [] Γ
def wsCons (w : WE) (ws : WSl) : WSl := fun Γ Q X => w Γ (fun r Γ1 => slW r Γ1 fun s Γ2 => ws Γ2 (fun ss Γ3 => Q (s :: ss) Γ3) X) X
theorem Out.slot {v : V} {r : R} {k : Sl → Ev → Prop} (o : Out G C Hi σ H Γ v r) (q : slW r Γ k) :
    ∃ Hi' Γ' s, Ext Hi Hi' ∧ Γ'.length = σ.length ∧ Rel G C Hi' (σ ++ [some v]) H (Γ' ++ [s]) ∧ ((∃ d, s = .sh d) ∨ (∃ d, s = .ow d) ∨ ∃ t d, 10 ≤ t ∧ s = .op t d) ∧ k s Γ' := by
  cases r with
  | sh d => exact ⟨Hi, Γ, .sh d, Ext.refl _, o.1.len, o.1.push_sh o.2, .inl ⟨d, rfl⟩, q⟩
  | ow d => exact ⟨Hi, Γ, .ow d, Ext.refl _, o.1, o.2, .inr (.inl ⟨d, rfl⟩), q⟩
  | op t d => exact ⟨Hi, Γ, .op t d, Ext.refl _, o.1, o.2, .inr (.inr ⟨t, d, q.1, rfl⟩), q.2⟩
  | vr i =>
    obtain ⟨d, Hi', Γ', e, c, r, q⟩ := o.share (k := fun d Γ1 => k (.sh d) Γ1) q
    exact ⟨Hi', Γ', .sh d, e, c.len, c.push_sh r, .inl ⟨d, rfl⟩, q⟩
def SimSl (G : Gb) (W : WX) (t : TA) (w : WSl) : Prop := ∀ (C : Cf) (Hi : Hp) (σ : St) (H : Hp) (Γ : Ev) (Q : List V → Hp → Prop) (Qd : List Sl → Ev → Prop) (Xd : XW), Rel G C Hi σ H Γ → w Γ Qd Xd →
  (∀ vs ss H' Hi' Γ', Ext Hi Hi' → Γ'.length = σ.length → Rel G C Hi' (σ ++ vs.reverse.map some) H' (Γ' ++ ss.reverse) → Plain ss → vs.length = ss.length → Qd ss Γ' → Q vs H') →
  (∀ x c d H' Hi' Γ', Ext Hi Hi' → Rel G C Hi' σ H' Γ' → G.xr x c d Hi' → Xd x Γ' → W c d σ H') → t σ H Q
theorem sims_nil : SimSl G W tNil wsNil := fun C Hi σ H Γ Q Qd Xd c hw hQ hX => hQ [] [] H Hi Γ (Ext.refl _) c.len (by simpa using c) (fun s h => nomatch h) rfl hw
theorem sims_cons {te : TE} {ta : TA} {we : WE} {ws : WSl} (he : SimE G W te we) (ha : SimSl G W ta ws) : SimSl G W (tCons te ta) (wsCons we ws) := by
  intro C Hi σ H Γ Q Qd Xd c hw hQ hX
  refine he C Hi σ H Γ _ _ Xd c hw (fun v1 r1 H1 Hi1 Γ1 e1 o1 q1 => ?_) hX
  obtain ⟨Hi2, Γ2, s, e2, hl, c2, pl, q2⟩ := o1.slot q1
  have f2 := e1.trans e2
  obtain ⟨fp, c2⟩ := c2
  have pl1 : Plain [s] := fun s' h => by
    have : s' = s := by simpa using h
    rw [this]; exact pl
  refine ha _ Hi2 σ H1 Γ2 _ _ Xd ⟨_, c2.aside hl⟩ q2 (fun vs ss H3 Hi3 Γ3 e3 hl3 c3 pl3 hle q3 => ?_) fun x c d H' Hi' Γ' e' c' => ?_
  · obtain ⟨fp3, c3⟩ := c3
    have c4 := c2.back hl pl1 e3 c3
    refine hQ (v1 :: vs) (s :: ss) H3 Hi3 Γ3 (f2.trans e3) hl3 ?_ ?_ (by simp [hle]) q3
    · rw [List.reverse_cons, List.reverse_cons, List.map_append, ← List.append_assoc, ← List.append_assoc]
      exact c4
    · intro s' h
      rcases List.mem_cons.mp h with rfl | h
      · exact pl
      · exact pl3 s' h
  · obtain ⟨fp', c'⟩ := c'
    have c4 := c2.back hl pl1 e' c'
    exact hX x c d H' Hi' Γ' (f2.trans e') (c4.trunc c'.len)
theorem Rel.moves {n : Nat} : ∀ (is : List Nat) (vs : List V) (ss : List Sl) {σ : St} {Γ : Ev}, is.length = vs.length → vs.length = ss.length → Γ.length = σ.length → (∀ i ∈ is, i < Γ.length) →
    Rel G C Hi (σ ++ vs.reverse.map some) H (Γ ++ ss.reverse) → Rel G C Hi ((is.zip vs).foldl (fun σ p => σ.set p.1 (some p.2)) σ) H ((is.zip ss).foldl (fun Γ p => Γ.set p.1 p.2) Γ)
  | [], [], [], σ, Γ, _, _, _, _, c => by simpa using c
  | i :: is, v :: vs, s :: ss, σ, Γ, h1, h2, hl, hi, c => by
    rw [List.reverse_cons, List.reverse_cons, List.map_append, ← List.append_assoc, ← List.append_assoc] at c
    have h2' : vs.length = ss.length := by simpa using h2
    have hil : i < Γ.length := hi i List.mem_cons_self
    have c1 := Rel.move (i := i) (x := some v) c (by simp; omega) (by simp; omega)
    rw [List.set_append_left i _ (by omega), List.set_append_left i _ hil] at c1
    exact Rel.moves (n := n) is vs ss (by simpa using h1) h2' (by simpa using hl) (fun j hj => by rw [List.length_set]; exact hi j (List.mem_cons_of_mem _ hj)) c1
  | [], _ :: _, _, _, _, h1, _, _, _, _ => by simp at h1
  | _ :: _, [], _, _, _, h1, _, _, _, _ => by simp at h1
  | [], [], _ :: _, _, _, _, h2, _, _, _ => by simp at h2
  | _ :: _, _ :: _, [], _, _, _, h2, _, _, _ => by simp at h2
theorem two_of {α : Type} : ∀ {l : List α}, l.length = 2 → ∃ a b, l = [a, b]
  | [a, b], _ => ⟨a, b, rfl⟩
  | [], h => by simp at h
  | [_], h => by simp at h
  | _ :: _ :: _ :: _, h => by simp at h
theorem three_of {α : Type} : ∀ {l : List α}, l.length = 3 → ∃ a b c, l = [a, b, c]
  | [a, b, c], _ => ⟨a, b, c, rfl⟩
  | [], h => by simp at h
  | [_], h => by simp at h
  | [_, _], h => by simp at h
  | _ :: _ :: _ :: _ :: _, h => by simp at h
def wPar (is : List Nat) (ws : WSl) : WS := fun Γ D X => ws Γ (fun ss Γ1 => ss.length = is.length ∧ (∀ i ∈ is, i < Γ1.length) ∧ D.nx ((is.zip ss).foldl (fun Γ p => Γ.set p.1 p.2) Γ1)) X
theorem sim_par {i j : Nat} {ta : TA} {ws : WSl} (h : SimSl G W ta ws) : SimS G W (tPar i j ta) (wPar [i, j] ws) := by
  intro C Hi σ H Γ Dn Dd Xd c hw h1 _ _ _ h5
  refine h C Hi σ H Γ _ _ Xd c hw (fun vs ss H1 Hi1 Γ1 e1 hl c1 pl hle ⟨q1, q2, q3⟩ => ?_) fun x c d => h5 x c d σ
  have m := Rel.moves (n := 0) [i, j] vs ss (by rw [hle, q1]) hle hl q2 c1
  obtain ⟨v1, v2, rfl⟩ := two_of (show vs.length = 2 by rw [hle, q1]; rfl)
  obtain ⟨s1, s2, rfl⟩ := two_of (show ss.length = 2 by rw [q1]; rfl)
  exact ⟨v1, v2, rfl, h1 _ H1 Hi1 _ e1 m q3⟩
theorem sim_par3 {i j l : Nat} {ta : TA} {ws : WSl} (h : SimSl G W ta ws) : SimS G W (tPar3 i j l ta) (wPar [i, j, l] ws) := by
  intro C Hi σ H Γ Dn Dd Xd c hw h1 _ _ _ h5
  refine h C Hi σ H Γ _ _ Xd c hw (fun vs ss H1 Hi1 Γ1 e1 hl c1 pl hle ⟨q1, q2, q3⟩ => ?_) fun x c d => h5 x c d σ
  have m := Rel.moves (n := 0) [i, j, l] vs ss (by rw [hle, q1]) hle hl q2 c1
  obtain ⟨v1, v2, v3, rfl⟩ := three_of (show vs.length = 3 by rw [hle, q1]; rfl)
  obtain ⟨s1, s2, s3, rfl⟩ := three_of (show ss.length = 3 by rw [q1]; rfl)
  exact ⟨v1, v2, v3, rfl, h1 _ H1 Hi1 _ e1 m q3⟩
def gNames : List Nat → TGs
  | [] => gNil
  | i :: is => gCons (gName i) (gNames is)
theorem gNames_run {H : Hp} {Q : St → Hp → Prop} : ∀ (is : List Nat) (vs : List V) (σ : St), is.length = vs.length → Q ((is.zip vs).foldl (fun σ p => σ.set p.1 (some p.2)) σ) H → gNames is vs σ H Q
  | [], [], σ, _, h => ⟨rfl, h⟩
  | i :: is, v :: vs, σ, hl, h => ⟨v, vs, rfl, gNames_run is vs _ (by simpa using hl) h⟩
  | [], _ :: _, _, hl, _ => by simp at hl
  | _ :: _, [], _, hl, _ => by simp at hl
theorem sim_parT {is : List Nat} {n : Nat} {ta : TA} {ws : WSl} (hn : is.length = n) (hs : n ≤ 1000) (h : SimSl G W ta ws) : SimS G W (tAsg (tTup ta) (gTup G.K n (gNames is))) (wPar is ws) := by
  intro C Hi σ H Γ Dn Dd Xd c hw h1 _ _ _ h5
  refine h C Hi σ H Γ _ _ Xd c hw (fun vs ss H1 Hi1 Γ1 e1 hl c1 pl hle ⟨q1, q2, q3⟩ => ?_) fun x c d => h5 x c d σ
  have hv : vs.length = n := by rw [hle, q1, hn]
  refine ⟨le_line (by rw [hv]; exact hs), fun p hp => ⟨p, vs, rfl, SqT.of upd_same, hv, ?_⟩⟩
  refine gNames_run is vs σ (by rw [hv, hn]) (h1 _ _ Hi1 _ e1 ?_ q3)
  have m := Rel.moves (n := 0) is vs ss (by rw [hle, q1]) hle hl q2 c1
  exact m.grow (Ext.new hp) (Ext.refl _) (m.imm.trans (Ext.new hp)) fun _ _ z => .inl z
end
end VL

set_option Elab.async false
set_option linter.all false
set_option maxRecDepth 100000
namespace VL
open PySem L2

section
variable {G : Gb} {C : Cf} {Hi Hi' Hi1 H H' H1 : Hp} {σ τ : St} {Γ Γ1 Γ2 Δ : Ev} {W : WX}
def wipeE (Γ : Ev) : List Nat → Ev
  | [] => Γ
  | v :: vs => (wipeE Γ vs).set v .no
def restE (Γ0 : Ev) : Ev → List Nat → Ev
  | Γ, [] => Γ
  | Γ, v :: vs => restE Γ0 (Γ.set v ((Γ0[v]?).getD .no)) vs
def okW (Γ : Ev) : List Nat → Prop
  | [] => True
  | v :: vs => (match Γ[v]? with
    | some .no => True
    | some (.sh _) => True
    | _ => False) ∧ okW Γ vs
theorem wipeE_length (Γ : Ev) : ∀ vs, (wipeE Γ vs).length = Γ.length
  | [] => rfl
  | v :: vs => by unfold wipeE; rw [List.length_set, wipeE_length Γ vs]
theorem restE_length (Γ0 : Ev) : ∀ (vs : List Nat) (Γ : Ev), (restE Γ0 Γ vs).length = Γ.length
  | [], _ => rfl
  | v :: vs, Γ => by unfold restE; rw [restE_length Γ0 vs, List.length_set]
theorem okW_lt : ∀ {vs : List Nat}, okW Γ vs → ∀ v ∈ vs, v < Γ.length ∧ ((Γ[v]? = some .no) ∨ ∃ d, Γ[v]? = some (.sh d))
  | [], _, v, h => nomatch h
  | w :: vs, ⟨h1, h2⟩, v, h => by
    rcases List.mem_cons.mp h with rfl | h
    · split at h1
      · rename_i e
        exact ⟨(List.getElem?_eq_some_iff.mp e).1, .inl e⟩
      · rename_i d e
        exact ⟨(List.getElem?_eq_some_iff.mp e).1, .inr ⟨d, e⟩⟩
      · exact h1.elim
    · exact okW_lt h2 v h
theorem wipe_get (σ : St) (j : Nat) : ∀ vs : List Nat, (wipe σ vs)[j]? = if j ∈ vs then (σ[j]?).map (fun _ => none) else σ[j]?
  | [] => by simp [wipe]
  | v :: vs => by
    unfold wipe
    by_cases hj : v = j
    · subst hj
      rw [List.getElem?_set_self', wipe_get σ v vs, if_pos List.mem_cons_self]
      split
      · cases σ[v]? <;> rfl
      · rfl
    · rw [List.getElem?_set_ne hj, wipe_get σ j vs]
      have : (j ∈ v :: vs) ↔ j ∈ vs := by
        rw [List.mem_cons]
        exact ⟨fun h => h.resolve_left fun e => hj e.symm, .inr⟩
      by_cases hm : j ∈ vs
      · rw [if_pos hm, if_pos (this.mpr hm)]
      · rw [if_neg hm, if_neg fun h => hm (this.mp h)]
theorem wipe_set {i : Nat} {x : Option V} {vs : List Nat} (h : i ∈ vs) : wipe (σ.set i x) vs = wipe σ vs := by
  apply List.ext_getElem?
  intro j
  rw [wipe_get, wipe_get]
  by_cases hj : j ∈ vs
  · rw [if_pos hj, if_pos hj]
    by_cases e : i = j
    · subst e
      rw [List.getElem?_set_self']
      cases σ[i]? <;> rfl
    · rw [List.getElem?_set_ne e]
  · rw [if_neg hj, if_neg hj, List.getElem?_set_ne (show i ≠ j from fun e => by subst e; exact hj h)]
theorem wipe_wipe (vs : List Nat) : wipe (wipe σ vs) vs = wipe σ vs := by
  apply List.ext_getElem?
  intro j
  rw [wipe_get, wipe_get]
  split
  · cases σ[j]? <;> rfl
  · rfl
theorem wipe_append : ∀ {vs : List Nat}, (∀ v ∈ vs, v < σ.length) → wipe (σ ++ τ) vs = wipe σ vs ++ τ
  | [], _ => rfl
  | v :: vs, h => by
    unfold wipe
    rw [wipe_append fun w hw => h w (List.mem_cons_of_mem _ hw), List.set_append_left _ _ (by rw [wipe_length]; exact h v List.mem_cons_self)]
theorem wipeE_append : ∀ {vs : List Nat}, (∀ v ∈ vs, v < Γ.length) → wipeE (Γ ++ Δ) vs = wipeE Γ vs ++ Δ
  | [], _ => rfl
  | v :: vs, h => by
    unfold wipeE
    rw [wipeE_append fun w hw => h w (List.mem_cons_of_mem _ hw), List.set_append_left _ _ (by rw [wipeE_length]; exact h v List.mem_cons_self)]
theorem Rel.setNo {i : Nat} {x : Option V} (c : Rel G C Hi σ H Γ) : Rel G C Hi (σ.set i x) H (Γ.set i .no) := by
  by_cases hi : i < Γ.length
  · exact c.put_no hi
  · rw [set_far hi, set_far (by rw [← c.len]; exact hi)]; exact c
theorem Rel.wipe (c : Rel G C Hi σ H Γ) : ∀ vs : List Nat, Rel G C Hi (L2.wipe σ vs) H (wipeE Γ vs)
  | [] => c
  | v :: vs => (c.wipe vs).setNo
theorem Rel.unwipe (c1 : Rel G C Hi1 σ H1 Γ1) (e : Ext Hi1 Hi) (hd : τ.length = Δ.length) : ∀ (vs : List Nat) {Γ2 : Ev}, okW Γ1 vs → vs.Nodup → Γ2.length = σ.length → Rel G C Hi (L2.wipe σ vs ++ τ) H (Γ2 ++ Δ) →
    Rel G C Hi (σ ++ τ) H (restE Γ1 Γ2 vs ++ Δ)
  | [], Γ2, _, _, _, c => c
  | v :: vs, Γ2, ok, nd, hl, c => by
    obtain ⟨hv, hs⟩ := okW_lt ok v List.mem_cons_self
    have hvs : v < σ.length := by rw [← c1.len]; exact hv
    obtain ⟨nd1, nd2⟩ := List.nodup_cons.mp nd
    have ew : ((L2.wipe σ (v :: vs)).set v σ[v]) = L2.wipe σ vs := by
      show (((L2.wipe σ vs).set v none).set v σ[v]) = L2.wipe σ vs
      rw [List.set_set]
      apply List.ext_getElem?
      intro j
      by_cases hj : v = j
      · subst hj
        rw [List.getElem?_set_self (by rw [wipe_length]; exact hvs), wipe_get, if_neg nd1, List.getElem?_eq_getElem hvs]
      · rw [List.getElem?_set_ne hj]
    have step : Rel G C Hi (((L2.wipe σ (v :: vs)) ++ τ).set v σ[v]) H ((Γ2 ++ Δ).set v ((Γ1[v]?).getD .no)) := by
      rcases hs with hs | ⟨d, hs⟩
      · rw [hs]
        exact c.setNo
      · rw [hs]
        obtain ⟨x, hx, rx⟩ := c1.at_sh hs
        rw [List.getElem?_eq_getElem hvs] at hx
        rw [Option.some.inj hx]
        exact c.setSh (rx.mono e)
    rw [List.set_append_left _ _ (by rw [wipe_length]; exact hvs), ew, List.set_append_left _ _ (by rw [hl]; exact hvs)] at step
    exact Rel.unwipe c1 e hd vs ok.2 nd2 (by rw [List.length_set]; exact hl) step

def SimGw (G : Gb) (g : TG) (w : WG) (vs : List Nat) : Prop := ∀ (C : Cf) (Hi : Hp) (σ : St) (H : Hp) (Γ : Ev) (v : V) (d : D) (Q : St → Hp → Prop) (Qd : Ev → Prop), Rel G C Hi σ H Γ → Rep G.K Hi v d → w d Γ Qd →
  (∀ σ' Γ', Rel G C Hi σ' H Γ' → L2.wipe σ' vs = L2.wipe σ vs → Qd Γ' → Q σ' H) → g v σ H Q
def SimGsw (G : Gb) (g : TGs) (w : WGs) (vs : List Nat) : Prop := ∀ (C : Cf) (Hi : Hp) (σ : St) (H : Hp) (Γ : Ev) (xs : List V) (ds : List D) (Q : St → Hp → Prop) (Qd : Ev → Prop), Rel G C Hi σ H Γ → Reps G.K Hi xs ds → w ds Γ Qd →
  (∀ σ' Γ', Rel G C Hi σ' H Γ' → L2.wipe σ' vs = L2.wipe σ vs → Qd Γ' → Q σ' H) → g xs σ H Q
theorem simgw_name (i : Nat) {vs : List Nat} (h : i ∈ vs) : SimGw G (gName i) (wgName i) vs := fun C Hi σ H Γ v d Q Qd c r hw q => q _ _ (c.setSh r) (wipe_set h) hw
theorem simgw_nil {vs : List Nat} : SimGsw G gNil wgNil vs := by
  intro C Hi σ H Γ xs ds Q Qd c r hw h
  cases r with
  | nil => exact ⟨rfl, h _ _ c rfl hw⟩
  | cons _ _ => exact hw.elim
theorem simgw_cons {vs : List Nat} {g : TG} {a : WG} {gs : TGs} {b : WGs} (ha : SimGw G g a vs) (hb : SimGsw G gs b vs) : SimGsw G (gCons g gs) (wgCons a b) vs := by
  intro C Hi σ H Γ xs ds Q Qd c r hw h
  cases r with
  | nil => exact hw.elim
  | cons r1 rr => exact ⟨_, _, rfl, ha C Hi σ H Γ _ _ _ _ c r1 hw fun σ' Γ' c' e' q => hb C Hi σ' H Γ' _ _ _ _ c' rr q fun σ2 Γ2 c2 e2 q2 => h σ2 Γ2 c2 (e2.trans e') q2⟩
theorem simgw_tup {vs : List Nat} {n : Nat} {gs : TGs} {b : WGs} (hb : SimGsw G gs b vs) : SimGw G (gTup G.K n gs) (wgTup n b) vs := by
  intro C Hi σ H Γ v d Q Qd c r hw h
  cases r with
  | tup s r =>
    obtain ⟨hl, hw⟩ := hw
    exact ⟨_, _, rfl, SqT.of (c.imm _ _ s), by rw [r.length]; exact hl, hb C Hi σ H Γ _ _ _ _ c r hw h⟩
  | _ => exact hw.elim

def noX : XW := fun _ _ => False
abbrev noW : WX := fun _ _ _ _ => False
def wYes : WT := fun Γ Q _ => Q true Γ
theorem sim_yes : SimT G W tYes wYes := fun C Hi σ H Γ Q Qd Xd c hw hQ hX => hQ true H Hi Γ (Ext.refl _) c hw
def lcW (vs : List Nat) (g : WG) (t : WT) (w : WE) (k : List D → Ev → Prop) : List PyData → List D → Ev → Prop
  | [], acc, Γ => k acc Γ
  | d :: ds, acc, Γ => g d Γ fun Γ1 => t Γ1 (fun b Γ2 => if b = true then w Γ2 (fun r Γ3 => frW r Γ3 fun e Γ4 => acc.length < sizeLine ∧ lcW vs g t w k ds (acc ++ [e]) (wipeE Γ4 vs)) noX
      else lcW vs g t w k ds acc (wipeE Γ2 vs)) noX
def wLc (vs : List Nat) (wi : WI) (g : WG) (t : WT) (w : WE) : WE := fun Γ Q X => wi Γ (fun ds Γ1 => okW Γ1 vs ∧ lcW vs g t w (fun acc Γ2 => Q (.ow (.list acc)) (restE Γ1 Γ2 vs)) ds [] (wipeE Γ1 vs)) X
theorem plain1 {d : D} : Plain [.ow d] := fun s h => by
  have : s = .ow d := by simpa using h
  exact .inr (.inl ⟨d, this⟩)
theorem lc_run {g : TG} {wg : WG} {tt : TT} {wt : WT} {te : TE} {we : WE} {vs : List Nat} (nd : vs.Nodup) (hg : SimGw G g wg vs) (ht : SimT G noW tt wt) (he : SimE G noW te we) {J : It} {ds : List D} {Q : VK} {Qd : R → Ev → Prop}
    (c1 : Rel G C Hi1 σ H1 Γ1) (it : Items G.K Hi1 J ds) (ok : okW Γ1 vs) (q : lcW vs wg wt we (fun acc Γ2 => Qd (.ow (.list acc)) (restE Γ1 Γ2 vs)) ds [] (wipeE Γ1 vs))
    (hQ : ∀ v r H' Hi' Γ', Ext Hi1 Hi' → Out G C Hi' σ H' Γ' v r → Qd r Γ' → Q v H') : tLc (fun σ H R => R J H) g tt te vs σ H1 Q := by
  intro Dp hD
  have hvl : ∀ v ∈ vs, v < σ.length := fun v hv => by rw [← c1.len]; exact (okW_lt ok v hv).1
  have c3 := (c1.wipe vs).alloc hD (d := .list []) (.lst upd_same .nil)
  refine ⟨fun i m H' => m = ds.length - i ∧ i ≤ ds.length ∧ ∃ Hi' Γ' acc, Ext Hi1 Hi' ∧ Γ'.length = σ.length ∧ Rel G C Hi' (L2.wipe σ vs ++ [some (.ref Dp)]) H' (Γ' ++ [.ow (.list acc)]) ∧
      lcW vs wg wt we (fun acc Γ2 => Qd (.ow (.list acc)) (restE Γ1 Γ2 vs)) (ds.drop i) acc Γ',
    ⟨ds.length, by simp, Nat.zero_le _, Hi1, _, [], Ext.refl _, by rw [wipeE_length]; exact c1.len, c3, q⟩, ?_⟩
  rintro i m H2 ⟨rfl, hil, Hi2, Γ2, acc, e2, hl2, c2, q2⟩
  have hl2' : Γ2.length = (L2.wipe σ vs).length := by rw [wipe_length]; exact hl2
  by_cases hlt : i < ds.length
  · have hd : ds.drop i = ds[i] :: ds.drop (i + 1) := List.drop_eq_getElem_cons hlt
    rw [hd] at q2
    refine .inr ⟨it.go Hi2 H2 i e2 c2.imm hlt, fun H' => ∃ Hi' Γ' acc, Ext Hi1 Hi' ∧ Γ'.length = σ.length ∧ Rel G C Hi' (L2.wipe σ vs ++ [some (.ref Dp)]) H' (Γ' ++ [.ow (.list acc)]) ∧
      lcW vs wg wt we (fun acc Γ2 => Qd (.ow (.list acc)) (restE Γ1 Γ2 vs)) (ds.drop (i + 1)) acc Γ', fun H' z => ⟨ds.length - (i + 1), by omega, rfl, hlt, z⟩, fun x H3 y => ?_⟩
    obtain ⟨Hi3, e3, k3, im3, ov3, r3⟩ := it.yld Hi2 H2 i x H3 ds[i] e2 c2.imm (List.getElem?_eq_getElem hlt) y
    obtain ⟨fp, c4⟩ := c2.grow k3 e3 im3 ov3
    have f3 := e2.trans e3
    refine hg _ Hi3 (L2.wipe σ vs) H3 Γ2 x _ _ _ ⟨_, c4.aside hl2'⟩ r3 q2 fun σ5 Γ5 c5 w5 q5 => ?_
    have w5' : L2.wipe σ5 vs = L2.wipe σ vs := w5.trans (wipe_wipe vs)
    have l5 : σ5.length = σ.length := by
      have := congrArg List.length w5'
      rw [wipe_length, wipe_length] at this
      exact this
    have hv5 : ∀ v ∈ vs, v < σ5.length := fun v hv => by rw [l5]; exact hvl v hv
    refine ⟨w5.trans (by rw [wipe_wipe]), ht _ Hi3 σ5 H3 Γ5 _ _ noX c5 q5 (fun b H6 Hi6 Γ6 e6 c6 q6 => ?_) fun _ _ _ _ _ _ _ _ _ z => z.elim⟩
    cases b with
    | false =>
      obtain ⟨fp6, c6⟩ := c6
      have c9 := (c4.back hl2' plain1 e6 c6).wipe vs
      rw [wipe_append hv5, wipeE_append (fun v hv => by rw [c6.len]; exact hv5 v hv), w5'] at c9
      exact ⟨Hi6, _, acc, f3.trans e6, by rw [wipeE_length, c6.len, l5], c9, q6⟩
    | true =>
      refine he _ Hi6 σ5 H6 Γ6 _ _ noX c6 q6 (fun v7 r7 H7 Hi7 Γ7 e7 o7 q7 => ?_) fun _ _ _ _ _ _ _ _ _ z => z.elim
      obtain ⟨d, Hi8, Γ8, e8, c8, r8, hz, q8⟩ := o7.share q7
      obtain ⟨fp8, c8⟩ := c8
      have f8 := (e6.trans e7).trans e8
      have c9 := c4.back hl2' plain1 f8 c8
      have hat : (Γ8 ++ [Sl.ow (.list acc)])[Γ8.length]? = some (.ow (.list acc)) := by simp
      obtain ⟨p, hp, ow⟩ := c9.at_ow hat
      have ep : p = Dp := by
        rw [c8.len] at hp
        simpa using hp.symm
      subst ep
      cases ow with
      | lst hl rl =>
        refine ⟨_, hl, by rw [rl.length]; exact hz, ?_⟩
        have c10 := c9.write hat hp (d' := .list (acc ++ [d])) (.lst upd_same (rl.append (.one r8)))
        have e10 : (Γ8 ++ [Sl.ow (.list acc)]).set Γ8.length (.ow (.list (acc ++ [d]))) = Γ8 ++ [.ow (.list (acc ++ [d]))] := by simp
        rw [e10] at c10
        have c11 := c10.wipe vs
        rw [wipe_append hv5, wipeE_append (fun v hv => by rw [c8.len]; exact hv5 v hv), w5'] at c11
        exact ⟨Hi8, _, acc ++ [d], f3.trans f8, by rw [wipeE_length, c8.len, l5], c11, q8⟩
  · have e : i = ds.length := by omega
    subst e
    rw [List.drop_length] at q2
    refine .inl ⟨it.stop Hi2 H2 _ e2 c2.imm (Nat.le_refl _), hQ (.ref Dp) (.ow (.list acc)) H2 Hi2 _ e2 ⟨by rw [restE_length]; exact hl2, ?_⟩ q2⟩
    exact Rel.unwipe c1 e2 rfl vs ok nd hl2 c2

theorem sim_lc {ti : TI} {wi : WI} {g : TG} {wg : WG} {tt : TT} {wt : WT} {te : TE} {we : WE} {vs : List Nat} (nd : vs.Nodup) (hi : SimI G W ti wi) (hg : SimGw G g wg vs) (ht : SimT G noW tt wt) (he : SimE G noW te we) :
    SimE G W (tLc ti g tt te vs) (wLc vs wi wg wt we) := by
  intro C Hi σ H Γ Q Qd Xd c hw hQ hX
  exact hi C Hi σ H Γ _ _ Xd c hw (fun J ds H1 Hi1 Γ1 e1 c1 it q => lc_run nd hg ht he c1 it q.1 q.2 fun v r H' Hi' Γ' e o q => hQ v r H' Hi' Γ' (e1.trans e) o q) hX

def dcW (vs : List Nat) (g : WG) (t : WT) (wk wv : WE) (k : List (D × D) → Ev → Prop) : List PyData → List (D × D) → Ev → Prop
  | [], acc, Γ => k acc Γ
  | d :: ds, acc, Γ => g d Γ fun Γ1 => t Γ1 (fun b Γ2 => if b = true then wk Γ2 (fun rk Γ3 => wv Γ3 (fun rv Γ4 => frW rk Γ4 fun ek Γ5 => frW rv Γ5 fun e Γ6 => isK ek (acc.length < sizeLine ∧ dcW vs g t wk wv k ds (dput acc ek e) (wipeE Γ6 vs))) noX) noX
      else dcW vs g t wk wv k ds acc (wipeE Γ2 vs)) noX
def wDc (vs : List Nat) (wi : WI) (g : WG) (t : WT) (wk wv : WE) : WE := fun Γ Q X => wi Γ (fun ds Γ1 => okW Γ1 vs ∧ dcW vs g t wk wv (fun acc Γ2 => Q (.ow (.dict acc)) (restE Γ1 Γ2 vs)) ds [] (wipeE Γ1 vs)) X
theorem sim_dc {ti : TI} {wi : WI} {g : TG} {wg : WG} {tt : TT} {wt : WT} {tk tv : TE} {wk wv : WE} {vs : List Nat} (nd : vs.Nodup) (hi : SimI G W ti wi) (hg : SimGw G g wg vs) (ht : SimT G noW tt wt) (hk : SimE G noW tk wk) (hv : SimE G noW tv wv) :
    SimE G W (tDc ti g tt tk tv vs) (wDc vs wi wg wt wk wv) := by
  intro C Hi σ H Γ Q Qd Xd c hw hQ hX
  refine hi C Hi σ H Γ _ _ Xd c hw (fun J ds H1 Hi1 Γ1 e1 c1 it q => ?_) hX
  obtain ⟨ok, q⟩ := q
  intro Dp hD
  have hvl : ∀ v ∈ vs, v < σ.length := fun v hv => by rw [← c1.len]; exact (okW_lt ok v hv).1
  have c3 := (c1.wipe vs).alloc hD (d := .dict []) (.dct upd_same .nil)
  refine ⟨fun i m H' => m = ds.length - i ∧ i ≤ ds.length ∧ ∃ Hi' Γ' acc, Ext Hi1 Hi' ∧ Γ'.length = σ.length ∧ Rel G C Hi' (L2.wipe σ vs ++ [some (.ref Dp)]) H' (Γ' ++ [.ow (.dict acc)]) ∧
      dcW vs wg wt wk wv (fun acc Γ2 => Qd (.ow (.dict acc)) (restE Γ1 Γ2 vs)) (ds.drop i) acc Γ',
    ⟨ds.length, by simp, Nat.zero_le _, Hi1, _, [], Ext.refl _, by rw [wipeE_length]; exact c1.len, c3, q⟩, ?_⟩
  rintro i m H2 ⟨rfl, hil, Hi2, Γ2, acc, e2, hl2, c2, q2⟩
  have hl2' : Γ2.length = (L2.wipe σ vs).length := by rw [wipe_length]; exact hl2
  by_cases hlt : i < ds.length
  · have hd : ds.drop i = ds[i] :: ds.drop (i + 1) := List.drop_eq_getElem_cons hlt
    rw [hd] at q2
    refine .inr ⟨it.go Hi2 H2 i e2 c2.imm hlt, fun H' => ∃ Hi' Γ' acc, Ext Hi1 Hi' ∧ Γ'.length = σ.length ∧ Rel G C Hi' (L2.wipe σ vs ++ [some (.ref Dp)]) H' (Γ' ++ [.ow (.dict acc)]) ∧
      dcW vs wg wt wk wv (fun acc Γ2 => Qd (.ow (.dict acc)) (restE Γ1 Γ2 vs)) (ds.drop (i + 1)) acc Γ', fun H' z => ⟨ds.length - (i + 1), by omega, rfl, hlt, z⟩, fun x H3 y => ?_⟩
    obtain ⟨Hi3, e3, k3, im3, ov3, r3⟩ := it.yld Hi2 H2 i x H3 ds[i] e2 c2.imm (List.getElem?_eq_getElem hlt) y
    obtain ⟨fp, c4⟩ := c2.grow k3 e3 im3 ov3
    have f3 := e2.trans e3
    refine hg _ Hi3 (L2.wipe σ vs) H3 Γ2 x _ _ _ ⟨_, c4.aside hl2'⟩ r3 q2 fun σ5 Γ5 c5 w5 q5 => ?_
    have w5' : L2.wipe σ5 vs = L2.wipe σ vs := w5.trans (wipe_wipe vs)
    have l5 : σ5.length = σ.length := by
      have := congrArg List.length w5'
      rw [wipe_length, wipe_length] at this
      exact this
    have hv5 : ∀ v ∈ vs, v < σ5.length := fun v hv => by rw [l5]; exact hvl v hv
    refine ⟨w5.trans (by rw [wipe_wipe]), ht _ Hi3 σ5 H3 Γ5 _ _ noX c5 q5 (fun b H6 Hi6 Γ6 e6 c6 q6 => ?_) fun _ _ _ _ _ _ _ _ _ z => z.elim⟩
    cases b with
    | false =>
      obtain ⟨fp6, c6⟩ := c6
      have c9 := (c4.back hl2' plain1 e6 c6).wipe vs
      rw [wipe_append hv5, wipeE_append (fun v hv => by rw [c6.len]; exact hv5 v hv), w5'] at c9
      exact ⟨Hi6, _, acc, f3.trans e6, by rw [wipeE_length, c6.len, l5], c9, q6⟩
    | true =>
      refine hk _ Hi6 σ5 H6 Γ6 _ _ noX c6 q6 (fun v7 r7 H7 Hi7 Γ7 e7 o7 q7 => ?_) fun _ _ _ _ _ _ _ _ _ z => z.elim
      obtain ⟨Hi8, e8, c8, h8⟩ := o7.hold
      refine hv _ Hi8 σ5 H7 Γ7 _ _ noX c8 q7 (fun v9 r9 H9 Hi9 Γ9 e9 o9 q9 => ?_) fun _ _ _ _ _ _ _ _ _ z => z.elim
      obtain ⟨Hi10, e10, c10, h10⟩ := o9.hold
      obtain ⟨dk, Hi11, Γ11, e11, c11, r11, q11⟩ := (h8.mono (e9.trans e10)).share c10 q9
      obtain ⟨dv, Hi12, Γ12, e12, c12, r12, q12⟩ := (h10.mono e11).share c11 q11
      obtain ⟨⟨key, rfl⟩, hz, q13⟩ := isK_inv q12
      obtain ⟨fp8, c12⟩ := c12
      have f8 := ((((e6.trans e7).trans e8).trans e9).trans e10).trans (e11.trans e12)
      have c13 := c4.back hl2' plain1 f8 c12
      have hat : (Γ12 ++ [Sl.ow (.dict acc)])[Γ12.length]? = some (.ow (.dict acc)) := by simp
      obtain ⟨p, hp, ow⟩ := c13.at_ow hat
      have ep : p = Dp := by
        rw [c12.len] at hp
        simpa using hp.symm
      subst ep
      cases ow with
      | dct hl rl =>
        refine ⟨_, key, r11.key, hl, by rw [rl.length]; exact hz, ?_⟩
        have c14 := c13.write hat hp (d' := .dict (dput acc (kD key) dv)) (.dct upd_same (rl.put r12))
        have e14 : (Γ12 ++ [Sl.ow (.dict acc)]).set Γ12.length (.ow (.dict (dput acc (kD key) dv))) = Γ12 ++ [.ow (.dict (dput acc (kD key) dv))] := by simp
        rw [e14] at c14
        have c15 := c14.wipe vs
        rw [wipe_append hv5, wipeE_append (fun v hv => by rw [c12.len]; exact hv5 v hv), w5'] at c15
        exact ⟨Hi12, _, _, f3.trans f8, by rw [wipeE_length, c12.len, l5], c15, q13⟩
  · have e : i = ds.length := by omega
    subst e
    rw [List.drop_length] at q2
    refine .inl ⟨it.stop Hi2 H2 _ e2 c2.imm (Nat.le_refl _), hQ (.ref Dp) (.ow (.dict acc)) H2 Hi2 _ (e1.trans e2) ⟨by rw [restE_length]; exact hl2, ?_⟩ q2⟩
    exact Rel.unwipe c1 e2 rfl vs ok nd hl2 c2
end
end VL

set_option Elab.async false
set_option linter.all false
set_option maxRecDepth 100000
namespace VL
open PySem L2

abbrev FS := Option Sl → List D → (R → Option Sl → Prop) → (Exn → Option Sl → Prop) → Prop

section
variable {G : Gb} {C : Cf} {Hi Hi' H H' : Hp} {σ : St} {Γ : Ev} {W : WX}
def IoOne (G : Gb) (Hi H : Hp) : Sl → Addr → List Addr → Prop
  | .io d, p, fp => fp = [p] ∧ Own G.K Hi H p d
  | .op t d, p, fp => t < 10 ∧ G.Op.ok t d Hi H p fp
  | _, _, _ => False
def keyS : Sl → Nat
  | .io _ => 100
  | .op t _ => t
  | _ => 200
def IoAt (G : Gb) (Hi H : Hp) : Option Sl → List V → List Addr → Prop
  | none, pre, fp => pre = [] ∧ fp = []
  | some (.io d), pre, fp => ∃ p, pre = [.ref p] ∧ fp = [p] ∧ Own G.K Hi H p d
  | some (.op t d), pre, fp => t < 10 ∧ ∃ p, pre = [.ref p] ∧ G.Op.ok t d Hi H p fp
  | some (.two a b), pre, fp => ∃ p1 p2 f1 f2, pre = [.ref p1, .ref p2] ∧ fp = f1 ++ f2 ∧ IoOne G Hi H a p1 f1 ∧ IoOne G Hi H b p2 f2 ∧ (∀ x ∈ f1, x ∉ f2) ∧ keyS a ≠ keyS b
  | _, _, _ => False
def ResAt (G : Gb) (Hi H H' : Hp) (fp : List Addr) (v : V) : R → Prop
  | .sh d => Rep G.K Hi v d
  | .ow d => ∃ p, v = .ref p ∧ Own G.K Hi H' p d ∧ Hi p = none ∧ H p = none ∧ p ∉ fp
  | .vr _ => False
  | .op t d => 10 ≤ t ∧ ∃ p fp2, v = .ref p ∧ G.Op.ok t d Hi H' p fp2 ∧ ∀ a ∈ fp2, Hi a = none ∧ H a = none ∧ a ∉ fp
structure Left (G : Gb) (Hi H : Hp) (pre : List V) (fp : List Addr) (Hi' H' : Hp) (io : Option Sl) (fp' : List Addr) : Prop where
  e : Ext Hi Hi'
  imm : Ext Hi' H'
  ov : ∀ a o, Hi' a = some o → Hi a = some o ∨ H a = none
  keep : ∀ a o, H a = some o → a ∉ fp → H' a = some o
  live : ∀ a, H a ≠ none → H' a ≠ none
  at_ : IoAt G Hi' H' io pre fp'
  cells : ∀ a ∈ fp', Hi' a = none ∧ (a ∈ fp ∨ H a = none)
def lift (G : Gb) (fs : FS) : Sp := fun vs H Q E => ∃ (io : Option Sl) (ds : List D) (Hi : Hp) (Qd : R → Option Sl → Prop) (Xd : Exn → Option Sl → Prop) (pre post : List V) (fp : List Addr),
  vs = pre ++ post ∧ IoAt G Hi H io pre fp ∧ Reps G.K Hi post ds ∧ Ext Hi H ∧ (∀ a ∈ fp, Hi a = none) ∧ fs io ds Qd Xd ∧
  (∀ v r H' Hi' io' fp', Left G Hi H pre fp Hi' H' io' fp' → ResAt G Hi' H H' fp' v r → Qd r io' → Q v H') ∧
  (∀ x c d H' Hi' io' fp', Left G Hi H pre fp Hi' H' io' fp' → G.xr x c d Hi' → Xd x io' → E c d H')

def ioL : Option Sl → Ev
  | none => []
  | some (.two a b) => [a, b]
  | some s => [s]
def Γ0 (io : Option Sl) (ds : List D) (n : Nat) : Ev := ioL io ++ ds.map Sl.sh ++ List.replicate (n - (ioL io ++ ds.map Sl.sh).length) .no
def ioOf (io : Option Sl) (Γ : Ev) : Option Sl := match io with
  | none => none
  | some (.two _ _) => (match Γ[0]?, Γ[1]? with
    | some a, some b => some (.two a b)
    | _, _ => none)
  | some _ => Γ[0]?
def retW (r : R) (Γ : Ev) (k : R → Ev → Prop) : Prop := match r with
  | .sh d => k (.sh d) Γ
  | .ow d => k (.ow d) Γ
  | .vr i => match Γ[i]? with
    | some (.sh d) => k (.sh d) Γ
    | some (.ow d) => k (.ow d) (Γ.set i .no)
    | some (.op t d) => 10 ≤ t ∧ k (.op t d) (Γ.set i .no)
    | _ => False
  | .op t d => 10 ≤ t ∧ k (.op t d) Γ
def SameOne : Sl → Sl → Prop
  | .io _, .io _ => True
  | .op t _, .op u _ => t = u
  | _, _ => False
def SameIo : Option Sl → Option Sl → Prop
  | none, none => True
  | some (.io _), some (.io _) => True
  | some (.op t _), some (.op u _) => t = u
  | some (.two a b), some (.two c d) => SameOne a c ∧ SameOne b d
  | _, _ => False
def FnV (fs : FS) (n : Nat) (ws : WS) : Prop := ∀ (io : Option Sl) (ds : List D) (Qd : R → Option Sl → Prop) (Xd : Exn → Option Sl → Prop), fs io ds Qd Xd →
  ws (Γ0 io ds n) ⟨fun Γ => SameIo io (ioOf io Γ) ∧ Qd (.sh .none) (ioOf io Γ), fun r Γ => retW r Γ fun r' Γ' => SameIo io (ioOf io Γ') ∧ Qd r' (ioOf io Γ'), fun _ => False, fun _ => False⟩ fun x Γ => SameIo io (ioOf io Γ) ∧ Xd x (ioOf io Γ)
def FnL (fs : FS) (m : Nat) : Prop := ∀ io ds Qd Xd, fs io ds Qd Xd → (ioL io ++ ds.map Sl.sh).length = m
theorem lift_len {fs : FS} {m : Nat} (h : FnL fs m) {vs : List V} {Q : VK} {E : XK} (l : lift G fs vs H Q E) : vs.length = m := by
  obtain ⟨io, ds, Hi, Qd, Xd, pre, post, fp, rfl, hio, hr, _, _, hf, _⟩ := l
  have := h io ds Qd Xd hf
  rw [← this, List.length_append, List.length_append, List.length_map, hr.length]
  congr 1
  cases io with
  | none => obtain ⟨rfl, _⟩ := hio; rfl
  | some s =>
    cases s with
    | io d => obtain ⟨p, rfl, _⟩ := hio; rfl
    | op t d => obtain ⟨_, p, rfl, _⟩ := hio; rfl
    | two a b => obtain ⟨p1, p2, f1, f2, rfl, _⟩ := hio; rfl
    | _ => exact hio.elim
theorem IoOne.trk {s : Sl} {p : Addr} {fp : List Addr} (h : IoOne G Hi H s p fp) : ∀ a ∈ fp, ∃ o, H a = some o := by
  cases s with
  | io d =>
    obtain ⟨rfl, ow⟩ := h
    intro a ha
    have : a = p := by simpa using ha
    rw [this]; exact ow.trk
  | op t d => exact G.Op.trk h.2
  | _ => exact h.elim
theorem IoAt.trk {io : Option Sl} {pre : List V} {fp : List Addr} (h : IoAt G Hi H io pre fp) : ∀ a ∈ fp, ∃ o, H a = some o := by
  cases io with
  | none => obtain ⟨_, rfl⟩ := h; intro a ha; cases ha
  | some s =>
    cases s with
    | io d =>
      obtain ⟨p, _, rfl, ow⟩ := h
      intro a ha
      have : a = p := by simpa using ha
      rw [this]; exact ow.trk
    | op t d => obtain ⟨_, p, _, ok⟩ := h; exact G.Op.trk ok
    | two a b =>
      obtain ⟨p1, p2, f1, f2, _, rfl, h1, h2, _⟩ := h
      intro a ha
      rcases List.mem_append.mp ha with ha | ha
      · exact h1.trk a ha
      · exact h2.trk a ha
    | _ => exact h.elim
def cfOf (Hi H : Hp) (io : Option Sl) (pre : List V) (fp : List Addr) (h : ∀ a ∈ fp, ∃ o, H a = some o) : Cf :=
  ⟨H, Hi, fun a => a ∈ fp, fun a ha => by obtain ⟨o, e⟩ := h a ha; rw [e]; simp, fun t => match io, pre with
    | some (.op u _), [.ref p] => if t = u then some p else none
    | some (.io _), [.ref p] => if t = 100 then some p else none
    | some (.two a b), [.ref p, .ref q] => if t = keyS a then some p else if t = keyS b then some q else none
    | _, _ => none⟩
theorem slots_sh {C : Cf} : ∀ {vs : List V} {ds : List D}, Reps G.K Hi vs ds → ∀ (i : Nat) s, (ds.map Sl.sh)[i]? = some s → ∃ x, (vs.map some)[i]? = some x ∧ SlOk G C Hi H x [] s := by
  intro vs ds r i s h
  rw [List.getElem?_map] at h
  cases q : ds[i]? with
  | none => rw [q] at h; cases h
  | some d =>
    rw [q] at h; cases h
    obtain ⟨v, h1, h2⟩ := r.get q
    exact ⟨some v, by rw [List.getElem?_map, h1]; rfl, rfl, v, rfl, h2⟩
theorem begin_sh (C : Cf) (hC : C.H0 = H) (hI : C.I0 = Hi) {vs : List V} {ds : List D} (r : Reps G.K Hi vs ds) (im : Ext Hi H) : Core G C Hi (vs.map some) H (ds.map Sl.sh) fun _ => [] := by
  subst hC hI
  exact ⟨fun a o h _ => h, fun a h => h, im, Ext.refl _, fun a o h => .inl h, by simp [r.length], slots_sh r, fun i j a _ _ h => (nomatch h), fun i a _ h => (nomatch h)⟩
theorem Core.front {C : Cf} {x : Option V} {l : List Addr} {s : Sl} {fp : Nat → List Addr} (c : Core G C Hi σ H Γ fp) (ok : SlOk G C Hi H x l s) (nw : ∀ a ∈ l, Hi a = none ∧ ∀ j, j < Γ.length → a ∉ fp j) :
    Core G C Hi (x :: σ) H (s :: Γ) (fun j => match j with | 0 => l | j + 1 => fp j) := by
  refine ⟨c.frame, c.live, c.imm, c.base, c.ov, by simp [c.len], fun j s' h => ?_, fun i j a hi hj h1 h2 => ?_, fun i a hi h => ?_⟩
  · cases j with
    | zero => simp at h; subst h; exact ⟨x, rfl, ok⟩
    | succ j =>
      obtain ⟨y, h1, h2⟩ := c.sl j s' (by simpa using h)
      exact ⟨y, by simpa using h1, h2⟩
  · cases i with
    | zero =>
      cases j with
      | zero => rfl
      | succ j => exact absurd h2 ((nw a h1).2 j (by simpa using hj))
    | succ i =>
      cases j with
      | zero => exact absurd h1 ((nw a h2).2 i (by simpa using hi))
      | succ j => exact congrArg (· + 1) (c.dj i j a (by simpa using hi) (by simpa using hj) h1 h2)
  · cases i with
    | zero => exact (nw a h).1
    | succ i => exact c.av i a (by simpa using hi) h
theorem Rel.more {C : Cf} (c : Rel G C Hi σ H Γ) : ∀ n : Nat, Rel G C Hi (σ ++ List.replicate n none) H (Γ ++ List.replicate n .no)
  | 0 => by simpa using c
  | n + 1 => by
    rw [List.replicate_succ', List.replicate_succ', ← List.append_assoc, ← List.append_assoc]
    obtain ⟨fp, c'⟩ := c.more n
    exact ⟨_, c'.push (l := []) (Ext.refl _) rfl fun a ha => (nomatch ha)⟩
theorem begin_rel {io : Option Sl} {pre post : List V} {ds : List D} {fp : List Addr} (hio : IoAt G Hi H io pre fp) (r : Reps G.K Hi post ds) (im : Ext Hi H) (av : ∀ a ∈ fp, Hi a = none) :
    Rel G (cfOf Hi H io pre fp hio.trk) Hi ((pre ++ post).map some) H (ioL io ++ ds.map Sl.sh) := by
  have sh0 := begin_sh (cfOf Hi H io pre fp hio.trk) rfl rfl r im
  cases io with
  | none =>
    obtain ⟨rfl, _⟩ := hio
    exact ⟨_, sh0⟩
  | some s =>
    cases s with
    | io d =>
      obtain ⟨p, rfl, rfl, ow⟩ := id hio
      exact ⟨_, sh0.front (x := some (.ref p)) (l := [p]) (s := .io d) ⟨p, rfl, rfl, ow, show p ∈ [p] from List.mem_singleton.mpr rfl, fun q hq => by
        have hq : (if 100 = 100 then some p else none) = some q := hq
        rw [if_pos rfl] at hq
        exact Option.some.inj hq⟩ fun a ha => ⟨av a ha, fun j _ h => (nomatch h)⟩⟩
    | op t d =>
      obtain ⟨ht, p, rfl, ok⟩ := id hio
      refine ⟨_, sh0.front (x := some (.ref p)) (l := fp) (s := .op t d) ⟨p, rfl, ok, fun a ha => .inr ⟨by assumption, ha⟩, fun q _ hq => ?_⟩ fun a ha => ⟨av a ha, fun j _ h => (nomatch h)⟩⟩
      have hq : (if t = t then some p else none) = some q := hq
      rw [if_pos rfl] at hq
      exact Option.some.inj hq
    | two a b =>
      obtain ⟨p1, p2, f1, f2, rfl, rfl, h1, h2, dj, ky⟩ := id hio
      have pa1 : ∀ q, (cfOf Hi H (some (.two a b)) [.ref p1, .ref p2] (f1 ++ f2) hio.trk).pa (keyS a) = some q → p1 = q := fun q hq => by
        have hq : (if keyS a = keyS a then some p1 else if keyS a = keyS b then some p2 else none) = some q := hq
        rw [if_pos rfl] at hq
        exact Option.some.inj hq
      have pa2 : ∀ q, (cfOf Hi H (some (.two a b)) [.ref p1, .ref p2] (f1 ++ f2) hio.trk).pa (keyS b) = some q → p2 = q := fun q hq => by
        have hq : (if keyS b = keyS a then some p1 else if keyS b = keyS b then some p2 else none) = some q := hq
        rw [if_neg (Ne.symm ky), if_pos rfl] at hq
        exact Option.some.inj hq
      have mk : ∀ (s : Sl) (p : Addr) (f : List Addr), IoOne G Hi H s p f → (∀ x ∈ f, x ∈ f1 ++ f2) → (∀ q, (cfOf Hi H (some (.two a b)) [.ref p1, .ref p2] (f1 ++ f2) hio.trk).pa (keyS s) = some q → p = q) → SlOk G (cfOf Hi H (some (.two a b)) [.ref p1, .ref p2] (f1 ++ f2) hio.trk) Hi H (some (.ref p)) f s := fun s p f h hf hp => by
        cases s with
        | io d =>
          obtain ⟨rfl, ow⟩ := h
          exact ⟨p, rfl, rfl, ow, hf p (List.mem_singleton.mpr rfl), hp⟩
        | op t d => exact ⟨p, rfl, h.2, fun x hx => .inr ⟨h.1, hf x hx⟩, fun q _ hq => hp q hq⟩
        | _ => exact h.elim
      have c2 := sh0.front (x := some (.ref p2)) (l := f2) (s := b) (mk b p2 f2 h2 (fun x hx => List.mem_append_right _ hx) pa2) fun x hx => ⟨av x (List.mem_append_right _ hx), fun j _ h => (nomatch h)⟩
      have c1 := c2.front (x := some (.ref p1)) (l := f1) (s := a) (mk a p1 f1 h1 (fun x hx => List.mem_append_left _ hx) pa1) fun x hx => ⟨av x (List.mem_append_left _ hx), fun j _ h => by
        cases j with
        | zero => exact dj x hx h
        | succ j => exact nomatch h⟩
      exact ⟨_, c1⟩
    | _ => exact hio.elim
theorem end_left {io : Option Sl} {pre : List V} {fp : List Addr} {Γ' : Ev} {σ' : St} {fpf : Nat → List Addr} (hio : IoAt G Hi H io pre fp) {h : ∀ a ∈ fp, ∃ o, H a = some o} (c : Core G (cfOf Hi H io pre fp h) Hi' σ' H' Γ' fpf) (e : Ext Hi Hi')
    (h0 : SameIo io (ioOf io Γ')) : ∃ fp', Left G Hi H pre fp Hi' H' (ioOf io Γ') fp' ∧ ∀ a ∈ fp', ∃ j, j < Γ'.length ∧ a ∈ fpf j := by
  have base : ∀ fp', IoAt G Hi' H' (ioOf io Γ') pre fp' → (∀ a ∈ fp', Hi' a = none ∧ (a ∈ fp ∨ H a = none)) → Left G Hi H pre fp Hi' H' (ioOf io Γ') fp' := fun fp' ia ce =>
    ⟨e, c.imm, c.ov, fun a o q n => c.frame a o q n, c.live, ia, ce⟩
  have cell : ∀ j, j < Γ'.length → ∀ a ∈ fpf j, Hi' a = none ∧ (a ∈ fp ∨ H a = none) := fun j hj a ha => ⟨c.av j a hj ha, by
    rcases c.home hj ha with q | q
    · exact .inr q
    · exact .inl q⟩
  have single : ∀ s0, io = some s0 → (∀ a b, s0 ≠ .two a b) → ioOf io Γ' = Γ'[0]? → ∃ fp', Left G Hi H pre fp Hi' H' (ioOf io Γ') fp' ∧ ∀ a ∈ fp', ∃ j, j < Γ'.length ∧ a ∈ fpf j := by
    rintro s0 rfl hne ei
    cases hs : Γ'[0]? with
    | none =>
      rw [ei, hs] at h0
      cases s0 <;> exact h0.elim
    | some s =>
      have h0l : 0 < Γ'.length := (List.getElem?_eq_some_iff.mp hs).1
      obtain ⟨x, hx, ok⟩ := c.sl 0 s hs
      refine ⟨fpf 0, base _ ?_ (cell 0 h0l), fun a ha => ⟨0, h0l, ha⟩⟩
      rw [ei, hs]
      rw [ei, hs] at h0
      cases s0 with
      | io d0 =>
        cases s with
        | io d =>
          obtain ⟨p, rfl, rfl, _⟩ := id hio
          obtain ⟨p', e0, e1, ow, hio', _⟩ := ok
          have : p' = p := by
            have z : p' ∈ [p] := hio'
            simpa using z
          subst this
          exact ⟨p', rfl, e0, ow⟩
        | _ => exact h0.elim
      | op t0 d0 =>
        cases s with
        | op t d =>
          obtain ⟨ht, p, rfl, _⟩ := id hio
          obtain ⟨p', e1, ok', _, hpa⟩ := ok
          have h0 : t0 = t := h0
          subst h0
          have : p' = p := hpa p ht (show (if t0 = t0 then some p else none) = some p from if_pos rfl)
          subst this
          exact ⟨ht, p', rfl, ok'⟩
        | _ => exact h0.elim
      | two a b => exact absurd rfl (hne a b)
      | _ => exact h0.elim
  cases io with
  | none =>
    obtain ⟨rfl, rfl⟩ := id hio
    exact ⟨[], base [] ⟨rfl, rfl⟩ (fun a ha => (nomatch ha)), fun a ha => (nomatch ha)⟩
  | some s0 =>
    cases s0 with
    | two a b =>
      obtain ⟨p1, p2, f1, f2, rfl, rfl, h1, h2, dj, ky⟩ := id hio
      have ei : ioOf (some (.two a b)) Γ' = (match Γ'[0]?, Γ'[1]? with
        | some a, some b => some (.two a b)
        | _, _ => none) := rfl
      cases hs1 : Γ'[0]? with
      | none => rw [ei, hs1] at h0; exact h0.elim
      | some a' =>
        cases hs2 : Γ'[1]? with
        | none => rw [ei, hs1, hs2] at h0; exact h0.elim
        | some b' =>
          have l1 : 1 < Γ'.length := (List.getElem?_eq_some_iff.mp hs2).1
          have l0 : 0 < Γ'.length := by omega
          obtain ⟨x1, hx1, ok1⟩ := c.sl 0 a' hs1
          obtain ⟨x2, hx2, ok2⟩ := c.sl 1 b' hs2
          rw [ei, hs1, hs2] at h0
          have h0 : SameOne a a' ∧ SameOne b b' := h0
          have pa1 : (cfOf Hi H (some (.two a b)) [.ref p1, .ref p2] (f1 ++ f2) h).pa (keyS a) = some p1 := by
            show (if keyS a = keyS a then some p1 else if keyS a = keyS b then some p2 else none) = some p1
            rw [if_pos rfl]
          have pa2 : (cfOf Hi H (some (.two a b)) [.ref p1, .ref p2] (f1 ++ f2) h).pa (keyS b) = some p2 := by
            show (if keyS b = keyS a then some p1 else if keyS b = keyS b then some p2 else none) = some p2
            rw [if_neg (Ne.symm ky), if_pos rfl]
          have one : ∀ (s s' : Sl) (p : Addr) (f f' : List Addr) (x : Option V), IoOne G Hi H s p f → SameOne s s' → (cfOf Hi H (some (.two a b)) [.ref p1, .ref p2] (f1 ++ f2) h).pa (keyS s) = some p → SlOk G (cfOf Hi H (some (.two a b)) [.ref p1, .ref p2] (f1 ++ f2) h) Hi' H' x f' s' → IoOne G Hi' H' s' p f' ∧ keyS s = keyS s' := fun s s' p f f' x hs ss hp ok => by
            cases s with
            | io d =>
              cases s' with
              | io d' =>
                obtain ⟨p', e0, e1, ow, _, hpa⟩ := ok
                have : p' = p := hpa p hp
                subst this
                exact ⟨⟨e0, ow⟩, rfl⟩
              | _ => exact ss.elim
            | op t d =>
              cases s' with
              | op t' d' =>
                obtain ⟨p', e1, ok', _, hpa⟩ := ok
                have ss : t = t' := ss
                subst ss
                have : p' = p := hpa p hs.1 hp
                subst this
                exact ⟨⟨hs.1, ok'⟩, rfl⟩
              | _ => exact ss.elim
            | _ => exact hs.elim
          obtain ⟨o1, k1⟩ := one a a' p1 f1 (fpf 0) x1 h1 h0.1 pa1 ok1
          obtain ⟨o2, k2⟩ := one b b' p2 f2 (fpf 1) x2 h2 h0.2 pa2 ok2
          refine ⟨fpf 0 ++ fpf 1, base _ ?_ (fun x hx => ?_), fun x hx => ?_⟩
          · rw [ei, hs1, hs2]
            exact ⟨p1, p2, _, _, rfl, rfl, o1, o2, fun x hx hx' => (by have := c.dj 0 1 x l0 l1 hx hx'; omega), by rw [← k1, ← k2]; exact ky⟩
          · rcases List.mem_append.mp hx with hx | hx
            · exact cell 0 l0 x hx
            · exact cell 1 l1 x hx
          · rcases List.mem_append.mp hx with hx | hx
            · exact ⟨0, l0, hx⟩
            · exact ⟨1, l1, hx⟩
    | io d => exact single _ rfl (fun a b e => nomatch e) rfl
    | op t d => exact single _ rfl (fun a b e => nomatch e) rfl
    | _ => exact hio.elim

theorem Core.trunc {C : Cf} {σ2 : St} {Γ2 : Ev} {fp : Nat → List Addr} (c : Core G C Hi (σ ++ σ2) H (Γ ++ Γ2) fp) (hl : Γ.length = σ.length) : Core G C Hi σ H Γ fp := by
  refine ⟨c.frame, c.live, c.imm, c.base, c.ov, hl, fun j s h => ?_, fun i j a hi hj => c.dj i j a (by simp; omega) (by simp; omega), fun i a hi => c.av i a (by simp; omega)⟩
  have hj : j < Γ.length := (List.getElem?_eq_some_iff.mp h).1
  obtain ⟨x, h1, h2⟩ := c.sl j s (by rw [List.getElem?_append_left hj]; exact h)
  exact ⟨x, by rw [List.getElem?_append_left (by omega)] at h1; exact h1, h2⟩
theorem Core.push2 {C : Cf} {x : Option V} {l : List Addr} {s : Sl} {fp : Nat → List Addr} (c : Core G C Hi σ H Γ fp) (sok : SlOk G C Hi H x l s) (nw : ∀ a ∈ l, Hi a = none ∧ ∀ j, j < Γ.length → a ∉ fp j) :
    Core G C Hi (σ ++ [x]) H (Γ ++ [s]) (fun j => if j = Γ.length then l else fp j) where
  frame := c.frame
  live := c.live
  imm := c.imm
  base := c.base
  ov := c.ov
  len := by simp [c.len]
  sl := fun j s' h => by
    by_cases hj : j < Γ.length
    · rw [List.getElem?_append_left hj] at h
      obtain ⟨y, h1, h2⟩ := c.sl j s' h
      refine ⟨y, by rw [List.getElem?_append_left (by rw [← c.len]; exact hj)]; exact h1, ?_⟩
      rw [if_neg (Nat.ne_of_lt hj)]
      exact h2
    · rw [List.getElem?_append_right (Nat.le_of_not_lt hj)] at h
      have hj0 : j - Γ.length = 0 := by
        have := (List.getElem?_eq_some_iff.mp h).1
        simp at this; omega
      rw [hj0] at h
      simp at h; subst h
      have : j = Γ.length := by omega
      subst this
      refine ⟨x, by rw [c.len]; simp, ?_⟩
      rw [if_pos rfl]; exact sok
  dj := fun j m a hj hm h1 h2 => by
    simp at hj hm
    by_cases ej : j = Γ.length <;> by_cases em : m = Γ.length
    · rw [ej, em]
    · rw [if_pos ej] at h1; rw [if_neg em] at h2
      exact absurd h2 ((nw a h1).2 m (by omega))
    · rw [if_neg ej] at h1; rw [if_pos em] at h2
      exact absurd h1 ((nw a h2).2 j (by omega))
    · rw [if_neg ej] at h1; rw [if_neg em] at h2
      exact c.dj j m a (by omega) (by omega) h1 h2
  av := fun j a hj h => by
    simp at hj
    by_cases ej : j = Γ.length
    · rw [if_pos ej] at h; exact (nw a h).1
    · rw [if_neg ej] at h; exact c.av j a (by omega) h
theorem end_ret {io : Option Sl} {pre : List V} {fp : List Addr} {Γ' : Ev} {σ' : St} {v : V} {r : R} {k : R → Option Sl → Prop} (hio : IoAt G Hi H io pre fp) {h : ∀ a ∈ fp, ∃ o, H a = some o} (e : Ext Hi Hi')
    (o : Out G (cfOf Hi H io pre fp h) Hi' σ' H' Γ' v r) (q : retW r Γ' fun r' Γ2 => SameIo io (ioOf io Γ2) ∧ k r' (ioOf io Γ2)) :
    ∃ r' io' fp', Left G Hi H pre fp Hi' H' io' fp' ∧ ResAt G Hi' H H' fp' v r' ∧ k r' io' := by
  cases r with
  | sh d =>
    obtain ⟨⟨fpf, c⟩, rp⟩ := o
    obtain ⟨s, q⟩ := q
    obtain ⟨fp', L, _⟩ := end_left hio c e s
    exact ⟨.sh d, _, fp', L, rp, q⟩
  | ow d =>
    obtain ⟨hl, fpf, c⟩ := o
    obtain ⟨s, q⟩ := q
    obtain ⟨fp', L, hfp⟩ := end_left hio (c.trunc hl) e s
    obtain ⟨x, hx, p, f1, e1, ow, h0⟩ := c.sl Γ'.length (.ow d) (by simp)
    have hx : x = some v := by
      rw [hl] at hx
      simpa using hx.symm
    rw [hx] at e1
    cases e1
    have h0 : H p = none := h0
    refine ⟨.ow d, _, fp', L, ⟨p, rfl, ow, c.av Γ'.length p (by simp) (by rw [f1]; simp), h0, fun hm => ?_⟩, q⟩
    obtain ⟨j, hj, hm⟩ := hfp _ hm
    have := c.dj j Γ'.length p (by simp; omega) (by simp) hm (by rw [f1]; simp)
    omega
  | vr i =>
    obtain ⟨⟨fpf, c⟩, hv⟩ := o
    unfold retW at q
    dsimp only at q
    split at q
    · rename_i d ed
      obtain ⟨s, q⟩ := q
      obtain ⟨fp', L, _⟩ := end_left hio c e s
      obtain ⟨w, h1, h2⟩ := Rel.at_sh ⟨fpf, c⟩ ed
      rw [hv] at h1; cases h1
      exact ⟨.sh d, _, fp', L, h2, q⟩
    · rename_i d ed
      obtain ⟨s, q⟩ := q
      have hi : i < Γ'.length := (List.getElem?_eq_some_iff.mp ed).1
      obtain ⟨x, hx, p, f1, e1, ow, h0⟩ := c.sl i _ ed
      rw [hx] at hv
      cases hv
      cases e1
      have h0 : H p = none := h0
      have c2 := c.put (x := none) (l := []) (s := .no) hi rfl fun a ha => (nomatch ha)
      obtain ⟨fp', L, hfp⟩ := end_left hio c2 e s
      refine ⟨.ow d, _, fp', L, ⟨p, rfl, ow, c.av i p hi (by rw [f1]; simp), h0, fun hm => ?_⟩, q⟩
      obtain ⟨j, hj, hm⟩ := hfp _ hm
      by_cases h0i : j = i
      · rw [if_pos h0i] at hm; cases hm
      · rw [if_neg h0i] at hm
        exact h0i (c.dj j i p (by rw [List.length_set] at hj; exact hj) hi hm (by rw [f1]; simp))
    · rename_i t d ed
      obtain ⟨ht, s, q⟩ := q
      have hi : i < Γ'.length := (List.getElem?_eq_some_iff.mp ed).1
      obtain ⟨x, hx, p, e1, okk, hh, _⟩ := c.sl i _ ed
      rw [hx] at hv
      cases hv
      cases e1
      have c2 := c.put (x := none) (l := []) (s := .no) hi rfl fun a ha => (nomatch ha)
      obtain ⟨fp', L, hfp⟩ := end_left hio c2 e s
      refine ⟨.op t d, _, fp', L, ⟨ht, p, fpf i, rfl, okk, fun a ha => ⟨c.av i a hi ha, ?_, fun hm => ?_⟩⟩, q⟩
      · rcases hh a ha with z | ⟨z, _⟩
        · exact z
        · omega
      · obtain ⟨j, hj, hm⟩ := hfp _ hm
        by_cases h0i : j = i
        · rw [if_pos h0i] at hm; cases hm
        · rw [if_neg h0i] at hm
          exact h0i (c.dj j i a (by rw [List.length_set] at hj; exact hj) hi hm ha)
    · exact q.elim
  | op t d =>
    obtain ⟨hl, fpf, c⟩ := o
    obtain ⟨ht, s, q⟩ := q
    obtain ⟨fp', L, hfp⟩ := end_left hio (c.trunc hl) e s
    obtain ⟨x, hx, p, e1, okk, hh, _⟩ := c.sl Γ'.length (.op t d) (by simp)
    have hx : x = some v := by
      rw [hl] at hx
      simpa using hx.symm
    rw [hx] at e1
    cases e1
    refine ⟨.op t d, _, fp', L, ⟨ht, p, fpf Γ'.length, rfl, okk, fun a ha => ⟨c.av Γ'.length a (by simp) ha, ?_, fun hm => ?_⟩⟩, q⟩
    · rcases hh a ha with z | ⟨z, _⟩
      · exact z
      · omega
    · obtain ⟨j, hj, hm⟩ := hfp _ hm
      have := c.dj j Γ'.length a (by simp; omega) (by simp) hm ha
      omega
theorem vbody {N : List Str} {fs : FS} {ws : WS} {t : TS} {vs : List V} {Q : VK} {E : XK} (hV : FnV fs N.length ws) (hs : SimS G (fun c d _ H => E c d H) t ws) (hsp : lift G fs vs H Q E) : t { nx := fun _ H' => Q .non H', rt := Q } (start N vs) H := by
  obtain ⟨io, ds, Hi, Qd, Xd, pre, post, fp, rfl, hio, hrep, im, av, hf, hQ, hX⟩ := hsp
  have c := (begin_rel hio hrep im av).more (N.length - (pre ++ post).length)
  have el : (pre ++ post).length = (ioL io ++ ds.map Sl.sh).length := by
    have := (begin_rel hio hrep im av).len
    rw [this, List.length_map]
  have eG : ioL io ++ ds.map Sl.sh ++ List.replicate (N.length - (pre ++ post).length) Sl.no = Γ0 io ds N.length := by rw [el]; rfl
  rw [eG] at c
  have wv := hV io ds Qd Xd hf
  exact hs _ Hi _ H _ _ _ _ c wv (fun σ' H' Hi' Γ' e c' ⟨s1, q⟩ => by
      obtain ⟨fpf, c'⟩ := c'
      obtain ⟨fp', L, _⟩ := end_left hio c' e s1
      exact hQ .non (.sh .none) H' Hi' _ fp' L .non q)
    (fun v r σ' H' Hi' Γ' e o q => by
      obtain ⟨r', io', fp', L, ra, q'⟩ := end_ret hio e o q
      exact hQ v r' H' Hi' io' fp' L ra q')
    (fun _ _ _ _ _ _ z => z.elim) (fun _ _ _ _ _ _ z => z.elim)
    (fun x c d σ' H' Hi' Γ' e c' hx ⟨s1, q⟩ => by
      obtain ⟨fpf, c'⟩ := c'
      obtain ⟨fp', L, _⟩ := end_left hio c' e s1
      exact hX x c d H' Hi' _ fp' L hx q)
theorem vfn {P : Program} {w : World} {K : Fg} {mg : Str → Option Value} {base : Heap} {x qual : Str} {params : Arguments} {body : List Stmt} {scope : Scope} {dvs : List V} {kws : List (Str × V)} {f : Addr} {fd : FuncData} {N ps : List Str} {k : Nat} {Op : OpSem} {ca : Str → Addr} {fs : FS} {ws : WS}
    (F : FunD K x qual params body scope dvs kws f fd) (S : FnScope N ps scope) (hL : FnL fs ps.length) (hV : FnV fs N.length ws)
    (hb : ∀ (cdv : Value) (A : Around) (outer : List Env) (s : Shared) (H : Hp) (E : XK), Room k (A.deeper (PyProof.Rows.envOfC qual scope s.heap.objs.size f cdv)) →
      ∃ t, PSs (cxOf (L2N.CX P w) P w K mg base N qual scope f cdv A outer s H E) body t ∧ SimS ⟨K, Op, ca⟩ (fun c d _ H => E c d H) t ws) : FnOk P w K mg base (L2N.CX P w) (k + 1) f fd ps (lift ⟨K, Op, ca⟩ fs) := by
  refine FunD.ok F S (fun vs H Q E h => lift_len hL h) fun cdv A outer s H vs Q E hr hsp => ?_
  obtain ⟨t, hp, hs⟩ := hb cdv A outer s H E hr
  exact ⟨t, hp, vbody hV hs hsp⟩

def wCall (fs : FS) (dv : List D) (wa : WA) : WE := fun Γ Q X => wa Γ (fun rs Γ1 => frAll rs Γ1 fun ds Γ2 => fs none (ds ++ dv) (fun r _ => Q r Γ2) fun x _ => X x Γ2) X
theorem sim_callSD {fs : FS} {ta : TA} {wa : WA} {dvs : List V} {dv : List D} (hd : ∀ Hi, Reps G.K Hi dvs dv) (ha : SimA G W ta wa) : SimE G W (tCallSD (lift G fs) dvs (L2.WE W) ta) (wCall fs dv wa) := by
  intro C Hi σ H Γ Q Qd Xd c hw hQ hX
  refine ha C Hi σ H Γ _ _ Xd c hw (fun vs rs H1 Hi1 Γ1 e1 c1 h1 q1 => ?_) hX
  obtain ⟨ds, Hi2, Γ2, e2, c2, rp, q2⟩ := h1.share (Ext.refl _) c1 q1
  have f2 := e1.trans e2
  refine ⟨none, ds ++ dv, Hi2, _, _, [], vs ++ dvs, [], rfl, ⟨rfl, rfl⟩, rp.append (hd Hi2), c2.imm, fun a ha => (nomatch ha), q2, fun v r H' Hi' io' fp' L ra q => ?_, fun x cl d H' Hi' io' fp' L hx q => ?_⟩
  · have c3 := c2.grow (fun a o h => L.keep a o h (fun z => nomatch z)) L.e L.imm L.ov
    cases r with
    | sh d => exact hQ v (.sh d) H' Hi' Γ2 (f2.trans L.e) ⟨c3, ra⟩ q
    | vr i => exact ra.elim
    | ow d =>
      obtain ⟨p, rfl, ow, hn, h0, hnf⟩ := ra
      obtain ⟨fpc, c2⟩ := c2
      obtain ⟨n1, n2⟩ := c2.fresh h0
      have c4 := c2.grow (fun a o h => L.keep a o h (fun z => nomatch z)) L.e L.imm L.ov
      refine hQ _ (.ow d) H' Hi' Γ2 (f2.trans L.e) ⟨c4.len, _, c4.push2 (x := some (.ref p)) (l := [p]) (s := .ow d) ⟨p, rfl, rfl, ow, n2⟩ fun a ha => ?_⟩ q
      have : a = p := by simpa using ha
      subst this
      exact ⟨hn, fun j hj hm => by obtain ⟨o, z⟩ := c2.trk hj hm; rw [h0] at z; cases z⟩
    | op t d =>
      obtain ⟨ht, p, fp2, rfl, okk, hn⟩ := ra
      obtain ⟨fpc, c2⟩ := c2
      have c4 := c2.grow (fun a o h => L.keep a o h (fun z => nomatch z)) L.e L.imm L.ov
      refine hQ _ (.op t d) H' Hi' Γ2 (f2.trans L.e) ⟨c4.len, _, c4.push2 (x := some (.ref p)) (l := fp2) (s := .op t d) ⟨p, rfl, okk, fun a ha => .inl (c2.fresh (hn a ha).2.1).2, fun q hq => by omega⟩ fun a ha => ?_⟩ q
      exact ⟨(hn a ha).1, fun j hj hm => by obtain ⟨o, z⟩ := c2.trk hj hm; rw [(hn a ha).2.1] at z; cases z⟩
  · have c3 := c2.grow (fun a o h => L.keep a o h (fun z => nomatch z)) L.e L.imm L.ov
    exact hX x cl d H' Hi' Γ2 (f2.trans L.e) c3 hx q
def hand (t : Nat) : Nat := t % 10
theorem hand_lt (t : Nat) : hand t < 10 := Nat.mod_lt _ (by decide)
def ioW (i : Nat) (Γ : Ev) (k : Sl → (Option Sl → Ev) → Prop) : Prop := match Γ[i]? with
  | some (.ow d) => k (.io d) fun s => match s with
    | some (.io d') => Γ.set i (.ow d')
    | _ => Γ
  | some (.io d) => k (.io d) fun s => match s with
    | some (.io d') => Γ.set i (.io d')
    | _ => Γ
  | some (.op t d) => k (.op (hand t) d) fun s => match s with
    | some (.op _ d') => Γ.set i (.op t d')
    | _ => Γ
  | _ => False
def isOwn (Γ : Ev) (i : Nat) : Prop := match Γ[i]? with
  | some (.ow _) => True
  | some (.io _) => True
  | some (.op _ _) => True
  | _ => False
theorem Core.after {C : Cf} {fpf : Nat → List Addr} {i : Nat} {p : Addr} {s0 s1 : Sl} {io' : Option Sl} {fp' : List Addr} (c : Core G C Hi σ H Γ fpf) (h : Γ[i]? = some s0) (hp : σ[i]? = some (some (.ref p))) (L : Left G Hi H [.ref p] (fpf i) Hi' H' io' fp')
    (ok : SlOk G C Hi' H' (some (.ref p)) fp' s1) : Core G C Hi' σ H' (Γ.set i s1) (fun j => if j = i then fp' else fpf j) := by
  have hi : i < Γ.length := (List.getElem?_eq_some_iff.mp h).1
  have hs : σ.set i (some (.ref p)) = σ := by
    obtain ⟨hl, e1⟩ := List.getElem?_eq_some_iff.mp hp
    rw [← e1]; exact List.set_getElem_self hl
  have st := c.step (H' := H') (Hi' := Hi') (x := some (.ref p)) (l := fp') (s := s1) hi L.e (fun a o h n => L.keep a o h n) (fun a ha => by
      obtain ⟨o, z⟩ := c.trk hi ha
      exact L.live a (by rw [z]; simp)) L.imm
    (fun a o z => by
      rcases L.ov a o z with q | q
      · exact .inl q
      · exact .inr (c.fresh q).2) ok
    (fun a ha => ⟨(L.cells a ha).1, fun j hj hne hm => by
      rcases (L.cells a ha).2 with q | q
      · exact hne (c.dj j i a hj hi hm q)
      · obtain ⟨o, z⟩ := c.trk hj hm
        rw [q] at z; cases z⟩)
    (fun j a hj hne hm => by
      cases q : Hi' a with
      | none => rfl
      | some o =>
        rcases L.ov a o q with z | z
        · rw [c.av j a hj hm] at z; cases z
        · obtain ⟨u, hu⟩ := c.trk hj hm
          rw [z] at hu; cases hu)
  rw [hs] at st
  exact st
theorem Core.ioAt {C : Cf} {fpf : Nat → List Addr} {i : Nat} {k : Sl → (Option Sl → Ev) → Prop} (c : Core G C Hi σ H Γ fpf) (h : ioW i Γ k) : ∃ p s0 s f, Γ[i]? = some s0 ∧ σ[i]? = some (some (.ref p)) ∧ IoAt G Hi H (some s) [.ref p] (fpf i) ∧ k s f ∧
    ∀ Hi' H' io' fp', Left G Hi H [.ref p] (fpf i) Hi' H' io' fp' → SameIo (some s) io' → Core G C Hi' σ H' (f io') (fun j => if j = i then fp' else fpf j) := by
  unfold ioW at h
  split at h
  · rename_i d e
    obtain ⟨x, hx, p, hf, e1, ow, h0⟩ := c.sl i _ e
    subst e1
    refine ⟨p, _, .io d, _, e, hx, ⟨p, rfl, hf, ow⟩, h, fun Hi' H' io' fp' L si => ?_⟩
    cases io' with
    | none => exact si.elim
    | some s =>
      cases s with
      | io d' =>
        obtain ⟨p', e2, e3, ow'⟩ := L.at_
        cases e2
        exact c.after e hx L ⟨p, e3, rfl, ow', h0⟩
      | _ => exact si.elim
  · rename_i d e
    obtain ⟨x, hx, p, hf, e1, ow, h0⟩ := c.sl i _ e
    subst e1
    refine ⟨p, _, .io d, _, e, hx, ⟨p, rfl, hf, ow⟩, h, fun Hi' H' io' fp' L si => ?_⟩
    cases io' with
    | none => exact si.elim
    | some s =>
      cases s with
      | io d' =>
        obtain ⟨p', e2, e3, ow'⟩ := L.at_
        cases e2
        exact c.after e hx L ⟨p, e3, rfl, ow', h0⟩
      | _ => exact si.elim
  · rename_i t d e
    obtain ⟨x, hx, p, e1, ok, hm, hpa⟩ := c.sl i _ e
    subst e1
    have hi : i < Γ.length := (List.getElem?_eq_some_iff.mp e).1
    refine ⟨p, _, .op (hand t) d, _, e, hx, ⟨hand_lt t, p, rfl, G.Op.hnd.mp ok⟩, h, fun Hi' H' io' fp' L si => ?_⟩
    cases io' with
    | none => exact si.elim
    | some s =>
      cases s with
      | op t' d' =>
        have si : hand t = t' := si
        subst si
        obtain ⟨_, p', e2, ok'⟩ := L.at_
        cases e2
        refine c.after e hx L ⟨p, rfl, G.Op.hnd.mpr ok', fun a ha => ?_, hpa⟩
        rcases (L.cells a ha).2 with q | q
        · exact hm a q
        · exact .inl (c.fresh q).2
      | _ => exact si.elim
  · exact h.elim
def wCallIo (fs : FS) (i : Nat) (dv : List D) (wa : WA) : WE := fun Γ Q X => isOwn Γ i ∧ wa Γ (fun rs Γ1 => frAll rs Γ1 fun ds Γ2 => ioW i Γ2 fun s f => fs (some s) (ds ++ dv) (fun r io => SameIo (some s) io ∧ Q r (f io)) fun x io => SameIo (some s) io ∧ X x (f io)) X
theorem sim_callIoSD {fs : FS} {ta : TA} {wa : WA} {dvs : List V} {dv : List D} (i : Nat) (hd : ∀ Hi, Reps G.K Hi dvs dv) (ha : SimA G W ta wa) : SimE G W (tCallSD (lift G fs) dvs (L2.WE W) (tCons (tVar i) ta)) (wCallIo fs i dv wa) := by
  intro C Hi σ H Γ Q Qd Xd c hw hQ hX
  obtain ⟨ho, hw⟩ := hw
  have hp : ∃ p, σ[i]? = some (some (.ref p)) := by
    obtain ⟨fpc, c⟩ := c
    unfold isOwn at ho
    split at ho
    · rename_i d e
      obtain ⟨x, hx, p, _, e1, _⟩ := c.sl i _ e
      exact ⟨p, by rw [hx, e1]⟩
    · rename_i d e
      obtain ⟨x, hx, p, _, e1, _⟩ := c.sl i _ e
      exact ⟨p, by rw [hx, e1]⟩
    · rename_i t d e
      obtain ⟨x, hx, p, e1, _⟩ := c.sl i _ e
      exact ⟨p, by rw [hx, e1]⟩
    · exact ho.elim
  obtain ⟨p, hp⟩ := hp
  refine ⟨_, hp, ha C Hi σ H Γ _ _ Xd c hw (fun vs rs H1 Hi1 Γ1 e1 c1 h1 q1 => ?_) hX⟩
  obtain ⟨ds, Hi2, Γ2, e2, c2, rp, q2⟩ := h1.share (Ext.refl _) c1 q1
  have f2 := e1.trans e2
  obtain ⟨fpc, c2⟩ := c2
  obtain ⟨p', s0, s, f, hs0, hp', hio, q3, back⟩ := c2.ioAt q2
  rw [hp] at hp'; cases hp'
  have hi : i < Γ2.length := (List.getElem?_eq_some_iff.mp hs0).1
  refine ⟨some s, ds ++ dv, Hi2, _, _, [.ref p], vs ++ dvs, fpc i, rfl, hio, rp.append (hd Hi2), c2.imm, fun a ha => c2.av i a hi ha, q3, fun v r H' Hi' io' fp' L ra ⟨si, q⟩ => ?_, fun x cl d H' Hi' io' fp' L hx ⟨si, q⟩ => ?_⟩
  · have c3 := back _ _ _ _ L si
    cases r with
    | sh d => exact hQ v (.sh d) H' Hi' _ (f2.trans L.e) ⟨⟨_, c3⟩, ra⟩ q
    | vr i => exact ra.elim
    | ow d =>
      obtain ⟨p2, rfl, ow, hn, h0, hnf⟩ := ra
      obtain ⟨n1, n2⟩ := c2.fresh h0
      have hfl : (f io').length = Γ2.length := by rw [c3.len, c2.len]
      refine hQ _ (.ow d) H' Hi' _ (f2.trans L.e) ⟨c3.len, _, c3.push2 (x := some (.ref p2)) (l := [p2]) (s := .ow d) ⟨p2, rfl, rfl, ow, n2⟩ fun a ha => ?_⟩ q
      have : a = p2 := by simpa using ha
      subst this
      refine ⟨hn, fun j hj hm => ?_⟩
      by_cases hji : j = i
      · rw [if_pos hji] at hm; exact hnf hm
      · rw [if_neg hji] at hm
        obtain ⟨o, z⟩ := c2.trk (by rw [hfl] at hj; exact hj) hm; rw [h0] at z; cases z
    | op t d =>
      obtain ⟨ht, p2, fp2, rfl, okk, hn⟩ := ra
      have hfl : (f io').length = Γ2.length := by rw [c3.len, c2.len]
      refine hQ _ (.op t d) H' Hi' _ (f2.trans L.e) ⟨c3.len, _, c3.push2 (x := some (.ref p2)) (l := fp2) (s := .op t d) ⟨p2, rfl, okk, fun a ha => .inl (c2.fresh (hn a ha).2.1).2, fun q hq => by omega⟩ fun a ha => ?_⟩ q
      refine ⟨(hn a ha).1, fun j hj hm => ?_⟩
      by_cases hji : j = i
      · rw [if_pos hji] at hm; exact (hn a ha).2.2 hm
      · rw [if_neg hji] at hm
        obtain ⟨o, z⟩ := c2.trk (by rw [hfl] at hj; exact hj) hm; rw [(hn a ha).2.1] at z; cases z
  · exact hX x cl d H' Hi' _ (f2.trans L.e) ⟨_, back _ _ _ _ L si⟩ hx q
end
end VL

set_option Elab.async false
set_option linter.all false
set_option maxRecDepth 100000
namespace VL
open PySem L2

structure DE (X : Cx) (G : Gb) (W : WX) (e : Expr) (t : TE) (w : WE) : Prop where
  pe : PE X e t
  sim : SimE G W t w
structure DT (X : Cx) (G : Gb) (W : WX) (e : Expr) (t : TT) (w : WT) : Prop where
  pe : PT X e t
  sim : SimT G W t w
structure DW (X : Cx) (G : Gb) (W : WX) (e : Expr) (t : TT) (w : WT) : Prop where
  pe : PW X e t
  sim : SimT G W t w
structure DA (X : Cx) (G : Gb) (W : WX) (es : List Expr) (t : TA) (w : WA) : Prop where
  pe : PA X es t
  sim : SimA G W t w
structure DSl (X : Cx) (G : Gb) (W : WX) (es : List Expr) (t : TA) (w : WSl) : Prop where
  pe : PA X es t
  sim : SimSl G W t w
structure DO (X : Cx) (G : Gb) (W : WX) (e : Option Expr) (t : TO) (w : WO) : Prop where
  pe : PO X e t
  sim : SimO G W t w
structure DS (X : Cx) (G : Gb) (W : WX) (e : Stmt) (t : TS) (w : WS) : Prop where
  pe : PS X e t
  sim : SimS G W t w
structure DB (X : Cx) (G : Gb) (W : WX) (e : List Stmt) (t : TS) (w : WS) : Prop where
  pe : PSs X e t
  sim : SimS G W t w
structure DI (X : Cx) (G : Gb) (W : WX) (tg e : Expr) (t : TI) (w : WI) : Prop where
  pe : PI X tg e t
  sim : SimI G W t w
structure DG (X : Cx) (G : Gb) (e : Expr) (t : TG) (w : WG) : Prop where
  pe : PG X e t
  sim : SimG G t w
structure DGs (X : Cx) (G : Gb) (e : List Expr) (t : TGs) (w : WGs) : Prop where
  pe : PGs X e t
  sim : SimGs G t w
structure DGw (X : Cx) (G : Gb) (vs : List Nat) (e : Expr) (t : TG) (w : WG) : Prop where
  pe : PG X e t
  sim : SimGw G t w vs
structure DGsw (X : Cx) (G : Gb) (vs : List Nat) (e : List Expr) (t : TGs) (w : WGs) : Prop where
  pe : PGs X e t
  sim : SimGsw G t w vs
structure DTs (X : Cx) (G : Gb) (W : WX) (e : List Expr) (t : TT) (w : WT) : Prop where
  pe : PTs X e t
  sim : SimT G W t w

section
variable {X : Cx} {G : Gb} {W : WX} {a b c e o i : Expr} {es : List Expr} {ta tb tc te to ti : TE} {wa wb wc we wo wi : WE} {pos pos' p p2 p3 : Pos} {t : TA} {w : WA}

theorem dv (i : Nat) {x : Str} (hN : X.N[i]? = some x := by rfl) (hv : Vis X.env.scope x := by first | exact Or.inl rfl | exact Or.inr (Or.inl rfl) | exact Or.inr (Or.inr rfl)) (hd : (x == ("__debug__" : Str)) = false := by decide)
    (hcd : (x == ("__classdict__" : Str)) = false := by decide) : DE X G W (.Name x pos) (tVar i) (wVar i) := ⟨pe_var hN hv hd hcd, sim_var i⟩
theorem de_int {i : Int} {j : Nat} : DE X G W (.Constant (.int i) j pos) (tC (.int i)) (wC (.int i)) := ⟨pe_int, sim_c fun _ => .int i⟩
theorem de_bl {i : Bool} {j : Nat} : DE X G W (.Constant (.bool i) j pos) (tC (.bl i)) (wC (.bool i)) := ⟨pe_bl, sim_c fun _ => .bl i⟩
theorem de_non {j : Nat} : DE X G W (.Constant .none j pos) (tC .non) (wC .none) := ⟨pe_non, sim_c fun _ => .non⟩
theorem de_str {i : Str} {j : Nat} : DE X G W (.Constant (.str i) j pos) (tC (.str i)) (wC (.str i)) := ⟨pe_str, sim_c fun _ => .str i⟩
theorem de_gstr {x z : Str} (h : ∃ t, X.mg x = some (.str z t)) (hg : Gl X x := by rfl) (hd : (x == ("__debug__" : Str)) = false := by decide) : DE X G W (.Name x pos) (tC (.str z)) (wC (.str z)) :=
  ⟨let ⟨t, h⟩ := h; pe_glob hg h ⟨t, rfl⟩ hd, sim_c fun _ => .str z⟩
theorem de_gint {x : Str} {z : Int} (h : ∃ t, X.mg x = some (.int z t)) (hg : Gl X x := by rfl) (hd : (x == ("__debug__" : Str)) = false := by decide) : DE X G W (.Name x pos) (tC (.int z)) (wC (.int z)) :=
  ⟨let ⟨t, h⟩ := h; pe_glob hg h ⟨t, rfl⟩ hd, sim_c fun _ => .int z⟩

theorem de_op {op : Operator} {r : R2} {f : Op2} (ho : OpR X (binaryOp op) r) (hs : Sem2 G r f) (ha : DE X G W a ta wa) (hb : DE X G W b tb wb) : DE X G W (.BinOp a op b pos) (tOp r ta tb) (wOp f wa wb) := ⟨pe_op ho ha.pe hb.pe, sim_op hs ha.sim hb.sim⟩
theorem de_add (hK : X.K = G.K) (ha : DE X G W a ta wa) (hb : DE X G W b tb wb) : DE X G W (.BinOp a .Add b pos) (tOp (rAddA G.K) ta tb) (wOp oAdd wa wb) := de_op (by rw [← hK]; exact op_addA) sem_add ha hb
theorem de_sub (ha : DE X G W a ta wa) (hb : DE X G W b tb wb) : DE X G W (.BinOp a .Sub b pos) (tOp (rI0 fun i j => .int (i - j)) ta tb) (wOp (oII (fun _ _ => True) (· - ·)) wa wb) := de_op op_sub sem_sub ha hb
theorem de_mul (ha : DE X G W a ta wa) (hb : DE X G W b tb wb) : DE X G W (.BinOp a .Mult b pos) (tOp rMulA ta tb) (wOp oMul wa wb) := de_op op_mulA sem_mul ha hb
theorem de_fdiv (ha : DE X G W a ta wa) (hb : DE X G W b tb wb) : DE X G W (.BinOp a .FloorDiv b pos) (tOp (rI CDivW fun i j => .int (i / j)) ta tb) (wOp (oII CDivW (· / ·)) wa wb) := de_op op_fdivW sem_fdiv ha hb
theorem de_mod (ha : DE X G W a ta wa) (hb : DE X G W b tb wb) : DE X G W (.BinOp a .Mod b pos) (tOp (rI (fun _ j => 0 < j) fun i j => .int (i % j)) ta tb) (wOp (oII (fun _ j => 0 < j) (· % ·)) wa wb) := de_op op_mod sem_mod ha hb
theorem de_neg (ha : DE X G W a ta wa) : DE X G W (.UnaryOp .USub a pos) (tUn (rU fun i => .int (-i)) ta) (wUn (fun a k => isI a fun i => k (.sh (.int (-i)))) wa) := ⟨pe_un un_neg ha.pe, sim_un sem_neg ha.sim⟩
structure C2 (X : Cx) (G : Gb) (op : CmpOp) (r : R2) (f : Op2) : Prop where
  op : OpR X (compareOp op) r
  sem : Sem2 G r f
theorem c_lt : C2 X G .Lt (rI0 fun i j => .bl (decide (i < j))) (oIB fun i j => decide (i < j)) := ⟨op_lt, sem_IB⟩
theorem c_le : C2 X G .LtE (rI0 fun i j => .bl (decide (i ≤ j))) (oIB fun i j => decide (i ≤ j)) := ⟨op_le, sem_IB⟩
theorem c_gt : C2 X G .Gt (rI0 fun i j => .bl (decide (j < i))) (oIB fun i j => decide (j < i)) := ⟨op_gt, sem_IB⟩
theorem c_ge : C2 X G .GtE (rI0 fun i j => .bl (decide (j ≤ i))) (oIB fun i j => decide (j ≤ i)) := ⟨op_ge, sem_IB⟩
theorem c_eq (hK : X.K = G.K) (hu : X.A.units + 65 < cLine) : C2 X G .Eq (rEqD G.K) oEq := ⟨by rw [← hK]; exact op_eqD (by omega), sem_eq⟩
theorem c_ne (hK : X.K = G.K) (hu : X.A.units + 65 < cLine) : C2 X G .NotEq (rNeD G.K) oNe := ⟨by rw [← hK]; exact op_neD (by omega), sem_ne⟩
theorem c_in (hK : X.K = G.K) (hu : X.A.units + 65 < cLine) : C2 X G .In (rInA G.K) (oIn false) := ⟨by rw [← hK]; exact op_inA hu, sem_in⟩
theorem c_notin (hK : X.K = G.K) (hu : X.A.units + 65 < cLine) : C2 X G .NotIn (rNotInA G.K) (oIn true) := ⟨by rw [← hK]; exact op_notInA hu, sem_notin⟩
theorem c_isN : C2 X G .Is (fun x y H Q => y = .non ∧ Q (.bl (decide (x = .non))) H) oIsN := ⟨op_isN, sem_isN⟩
theorem de_cmp {op : CmpOp} {r : R2} {f : Op2} (h : C2 X G op r f) (ha : DE X G W a ta wa) (hb : DE X G W b tb wb) (hm : behindInMarks op b = false := by first | exact nobehind _ (by decide) (by decide) | rfl) : DE X G W (.Compare a [op] [b] pos) (tOp r ta tb) (wOp f wa wb) :=
  ⟨pe_cmpR h.op ha.pe hb.pe hm, sim_op h.sem ha.sim hb.sim⟩
theorem dt_cmp {op : CmpOp} {r : R2} {f : Op2} (h : C2 X G op r f) (ha : DE X G W a ta wa) (hb : DE X G W b tb wb) (hm : behindInMarks op b = false := by first | exact nobehind _ (by decide) (by decide) | rfl) : DT X G W (.Compare a [op] [b] pos) (tTest (tOp r ta tb)) (wT (wOp f wa wb)) :=
  ⟨pt_cmpR h.op ha.pe hb.pe hm, sim_tTest (sim_op h.sem ha.sim hb.sim)⟩
theorem dt_chain {op op' : CmpOp} {r r' : R2} {f f' : Op2} (h : C2 X G op r f) (h' : C2 X G op' r' f') (ha : DE X G W a ta wa) (hb : DE X G W b tb wb) (hc : DE X G W c tc wc) (hl : lastMarks [op, op'] [b, c] = false := by with_unfolding_all rfl) :
    DT X G W (.Compare a [op, op'] [b, c] pos) (tTest (tChain r r' ta tb tc)) (wT (wChain f f' wa wb wc)) := ⟨pt_chain h.op h'.op ha.pe hb.pe hc.pe hl, sim_tTest (sim_chain h.sem h'.sem ha.sim hb.sim hc.sim)⟩

variable {rest : List Expr} {tt tu : TT} {wt wu : WT}
theorem de_one {op : BoolOp} (h : DE X G W a ta wa) : DE X G W (.BoolOp op [a] pos) ta wa := ⟨pe_one h.pe, h.sim⟩
theorem de_and (ha : DE X G W a ta wa) (hb : DE X G W (.BoolOp .And (b :: rest) pos) tb wb) : DE X G W (.BoolOp .And (a :: b :: rest) pos) (tAndV ta tb) (wAndV wa wb) := ⟨pe_and ha.pe hb.pe, sim_andV ha.sim hb.sim⟩
theorem de_or (ha : DE X G W a ta wa) (hb : DE X G W (.BoolOp .Or (b :: rest) pos) tb wb) : DE X G W (.BoolOp .Or (a :: b :: rest) pos) (tOrV ta tb) (wOrV wa wb) := ⟨pe_or ha.pe hb.pe, sim_orV ha.sim hb.sim⟩
theorem dt_val (ha : DE X G W a ta wa) (he : ∀ whole, isTrue a X.env whole = (do let v ← whole; standAt a.pos; holding [v] (truthy v)) := by intro _; rfl) : DT X G W a (tB ta) (wT wa) := ⟨pt_val ha.pe he, sim_tB ha.sim⟩
theorem dt_not (ha : DT X G W a tt wt) : DT X G W (.UnaryOp .Not a pos) (tNot tt) (wNot wt) := ⟨pt_not ha.pe, sim_not ha.sim⟩
theorem dw_and1 (ha : DT X G W a tt wt) : DW X G W (.BoolOp .And [a] pos) tt wt := ⟨pw_and1 ha.pe, ha.sim⟩
theorem dw_or1 (ha : DT X G W a tt wt) : DW X G W (.BoolOp .Or [a] pos) tt wt := ⟨pw_or1 ha.pe, ha.sim⟩
theorem dw_and (ha : DT X G W a tt wt) (hb : DW X G W (.BoolOp .And (b :: rest) pos) tu wu) : DW X G W (.BoolOp .And (a :: b :: rest) pos) (tAnd tt tu) (wAnd wt wu) := ⟨pw_and ha.pe hb.pe, sim_and ha.sim hb.sim⟩
theorem dw_or (ha : DT X G W a tt wt) (hb : DW X G W (.BoolOp .Or (b :: rest) pos) tu wu) : DW X G W (.BoolOp .Or (a :: b :: rest) pos) (tOr tt tu) (wOr wt wu) := ⟨pw_or ha.pe hb.pe, sim_or ha.sim hb.sim⟩
theorem dt_chn (h : DW X G W a tt wt) : DT X G W a tt wt := ⟨PW.pt h.pe, h.sim⟩
theorem de_if (hc : DT X G W c tt wt) (ha : DE X G W a ta wa) (hb : DE X G W b tb wb) : DE X G W (.IfExp c a b pos) (tIf tt ta tb) (wIf wt wa wb) := ⟨pe_ifExp hc.pe ha.pe hb.pe, sim_if hc.sim ha.sim hb.sim⟩

theorem da_nil : DA X G W [] tNil wNil := ⟨pa_nil, sim_nil⟩
theorem da_cons (he : DE X G W e te we) (hr : DA X G W es t w) (hs : starEach (e :: es) X.env = (false, eval e X.env) :: starEach es X.env := by rfl) : DA X G W (e :: es) (tCons te t) (wCons we w) := ⟨pa_cons he.pe hr.pe hs, sim_cons he.sim hr.sim⟩
theorem dl_nil : DSl X G W [] tNil wsNil := ⟨pa_nil, sims_nil⟩
theorem dl_cons {ws : WSl} (he : DE X G W e te we) (hr : DSl X G W es t ws) (hs : starEach (e :: es) X.env = (false, eval e X.env) :: starEach es X.env := by rfl) : DSl X G W (e :: es) (tCons te t) (wsCons we ws) := ⟨pa_cons he.pe hr.pe hs, sims_cons he.sim hr.sim⟩
theorem de_tup {x1 : Nat} (h : DA X G W es t w) : DE X G W (.Tuple es x1 pos) (tTup t) (wTup w) := ⟨pe_tup h.pe, sim_tup h.sim⟩
theorem de_lst (h : DA X G W es t w) : DE X G W (.List es pos) (tLst t) (wLst w) := ⟨pe_lst h.pe, sim_lst h.sim⟩
theorem de_dict0 : DE X G W (.Dict [] [] pos) tDNewK wDict0 := ⟨pe_dnewK, sim_dict0⟩
theorem de_ix (hK : X.K = G.K) (hu : X.A.units + 65 < cLine) (ha : DE X G W a ta wa) (hb : DE X G W b tb wb) (hs : PlainIx b := by intro _ _; rfl) : DE X G W (.Subscript a b pos) (tOp (rIxA G.K) ta tb) (wOp oIx wa wb) :=
  ⟨pe_ix (by rw [← hK]; exact ix_any (by omega)) ha.pe hb.pe hs, sim_op sem_ix ha.sim hb.sim⟩
theorem do_none : DO X G W none tNoPart wNoP := ⟨po_none, simo_none⟩
theorem do_some (h : DE X G W a ta wa) : DO X G W (some a) (tPart ta) (wPart wa) := ⟨po_some h.pe, simo_some h.sim⟩
theorem de_slL {lo hi : Option Expr} {tl th : TO} {wl wh : WO} (hK : X.K = G.K) (ha : DE X G W a ta wa) (hl : DO X G W lo tl wl) (hh : DO X G W hi th wh) : DE X G W (.Subscript a (.Slice lo hi none p2) pos) (tSl (rSlL G.K) ta tl th) (wSlL wa wl wh) :=
  ⟨pe_slice (by rw [← hK]; exact sl_list) ha.pe hl.pe hh.pe, sim_slL ha.sim hl.sim hh.sim⟩

theorem de_cb {x : Str} {id : String} {r : List V → Hp → VK → Prop} {f : OpN} (hc : CallR X (.builtin id) r) (hs : SemN G r f) (hg : Gl X x) (hm : X.mg x = none) (hv : bootBuiltins x = some (.builtin id)) (ha : DA X G W (e :: es) t w) (hn : x ≠ "__name__" := by decide)
    (hdb : (x == ("__debug__" : Str)) = false := by decide) (he : starEach (e :: es) X.env = (false, eval e X.env) :: starEach es X.env := by rfl) (hpl : (backTo pos (starEach es X.env)).any (·.1) = false := by rfl) :
    DE X G W (.Call (.Name x p) (e :: es) [] pos) (tCB r t) (wCB f w) := ⟨pe_callB hc hg hm hv ha.pe hn hdb he hpl, sim_cb hs ha.sim⟩
theorem de_ct {x : Str} {id : String} {r : List V → Hp → VK → Prop} {f : OpN} (hc : CallR X (.type id) r) (hs : SemN G r f) (hg : Gl X x) (hm : X.mg x = none) (hv : bootBuiltins x = some (.type id)) (ha : DA X G W (e :: es) t w) (hn : x ≠ "__name__" := by decide)
    (hdb : (x == ("__debug__" : Str)) = false := by decide) (he : starEach (e :: es) X.env = (false, eval e X.env) :: starEach es X.env := by rfl) (hpl : (backTo pos (starEach es X.env)).any (·.1) = false := by rfl) :
    DE X G W (.Call (.Name x p) (e :: es) [] pos) (tCB r t) (wCB f w) := ⟨pe_callTy hc hg hm hv ha.pe hn hdb he hpl, sim_cb hs ha.sim⟩
structure B1 (X : Cx) (G : Gb) (id : String) (r : List V → Hp → VK → Prop) (f : OpN) : Prop where
  c : CallR X (.builtin id) r
  s : SemN G r f
structure T1 (X : Cx) (G : Gb) (id : String) (r : List V → Hp → VK → Prop) (f : OpN) : Prop where
  c : CallR X (.type id) r
  s : SemN G r f
theorem b_len (hK : X.K = G.K) : B1 X G "len" (rLenA G.K) (o1 oLen) := ⟨by rw [← hK]; exact call_lenA, sem_len⟩
theorem b_all (hK : X.K = G.K) (hc : X.calm = true) : B1 X G "all" (rAll G.K) (o1 oAll) := ⟨by rw [← hK]; exact cr_all hc, sem_all⟩
theorem b_max (hc : X.calm = true) : B1 X G "max" rMax2A (o2 oMax) := ⟨call_max2A hc, sem_max⟩
theorem b_min (hc : X.calm = true) : B1 X G "min" rMin2A (o2 oMin) := ⟨call_min2A hc, sem_min⟩
theorem t_int : T1 X G "int" rIntA (o1 oInt) := ⟨call_intA, sem_int⟩
theorem t_list (hK : X.K = G.K) : T1 X G "list" (rListA G.K) (o1 oList) := ⟨by rw [← hK]; exact call_listA, sem_list⟩
theorem de_b {x : Str} {id : String} {r : List V → Hp → VK → Prop} {f : OpN} (h : B1 X G id r f) (hm : X.mg x = none) (ha : DA X G W (e :: es) t w) (hg : Gl X x := by rfl) (hv : bootBuiltins x = some (.builtin id) := by decide +kernel) (hn : x ≠ "__name__" := by decide)
    (hdb : (x == ("__debug__" : Str)) = false := by decide) (he : starEach (e :: es) X.env = (false, eval e X.env) :: starEach es X.env := by rfl) (hpl : (backTo pos (starEach es X.env)).any (·.1) = false := by rfl) :
    DE X G W (.Call (.Name x p) (e :: es) [] pos) (tCB r t) (wCB f w) := de_cb h.c h.s hg hm hv ha hn hdb he hpl
theorem de_t {x : Str} {id : String} {r : List V → Hp → VK → Prop} {f : OpN} (h : T1 X G id r f) (hm : X.mg x = none) (ha : DA X G W (e :: es) t w) (hg : Gl X x := by rfl) (hv : bootBuiltins x = some (.type id) := by decide +kernel) (hn : x ≠ "__name__" := by decide)
    (hdb : (x == ("__debug__" : Str)) = false := by decide) (he : starEach (e :: es) X.env = (false, eval e X.env) :: starEach es X.env := by rfl) (hpl : (backTo pos (starEach es X.env)).any (·.1) = false := by rfl) :
    DE X G W (.Call (.Name x p) (e :: es) [] pos) (tCB r t) (wCB f w) := de_ct h.c h.s hg hm hv ha hn hdb he hpl
theorem de_isi {T : String} {y : Str} (hK : X.K = G.K) (hT : KitOk T) (hm : X.mg "isinstance" = none) (hm2 : X.mg y = none) (ha : DE X G W a ta wa) (hv2 : bootBuiltins y = some (.type T) := by decide +kernel) (hg : Gl X "isinstance" := by rfl) (hg2 : Gl X y := by rfl)
    (hn2 : y ≠ "__name__" := by decide) (hd2 : (y == ("__debug__" : Str)) = false := by decide) (he : starEach [a, .Name y p2] X.env = (false, eval a X.env) :: starEach [.Name y p2] X.env := by rfl) (he2 : starEach [.Name y p2] X.env = (false, eval (.Name y p2) X.env) :: starEach [] X.env := by rfl) (hpl : (backTo pos (starEach [.Name y p2] X.env)).any (·.1) = false := by rfl) :
    DE X G W (.Call (.Name "isinstance" p) [a, .Name y p2] [] pos) (tCB (rIsi G.K) (tCons ta (tCons (tC (.ty T)) tNil))) (wIsi T wa) :=
  ⟨pe_callB (by rw [← hK]; exact call_isi) hg hm (by decide +kernel) (pa_cons ha.pe (pa_cons (pe_bltn hg2 hm2 hv2 rfl hn2 hd2) pa_nil he2) he) (by decide) (by decide) he hpl, sim_isi hT ha.sim⟩

theorem de_isi2 {T U : String} {y z : Str} {kk : Nat} {pt q2 q3 : Pos} (hK : X.K = G.K) (hT : KitOk T) (hU : KitOk U) (hm : X.mg "isinstance" = none) (hm2 : X.mg y = none) (hm3 : X.mg z = none) (ha : DE X G W a ta wa) (hv2 : bootBuiltins y = some (.type T) := by decide +kernel) (hv3 : bootBuiltins z = some (.type U) := by decide +kernel)
    (hg : Gl X "isinstance" := by rfl) (hg2 : Gl X y := by rfl) (hg3 : Gl X z := by rfl) (hn2 : y ≠ "__name__" := by decide) (hd2 : (y == ("__debug__" : Str)) = false := by decide) (hn3 : z ≠ "__name__" := by decide) (hd3 : (z == ("__debug__" : Str)) = false := by decide)
    (he : starEach [a, .Tuple [.Name y q2, .Name z q3] kk pt] X.env = (false, eval a X.env) :: starEach [.Tuple [.Name y q2, .Name z q3] kk pt] X.env := by rfl) (he2 : starEach [.Tuple [.Name y q2, .Name z q3] kk pt] X.env = (false, eval (.Tuple [.Name y q2, .Name z q3] kk pt) X.env) :: starEach [] X.env := by rfl)
    (he3 : starEach [.Name y q2, .Name z q3] X.env = (false, eval (.Name y q2) X.env) :: starEach [.Name z q3] X.env := by rfl) (he4 : starEach [.Name z q3] X.env = (false, eval (.Name z q3) X.env) :: starEach [] X.env := by rfl) (hpl : (backTo pos (starEach [.Tuple [.Name y q2, .Name z q3] kk pt] X.env)).any (·.1) = false := by rfl) :
    DE X G W (.Call (.Name "isinstance" p) [a, .Tuple [.Name y q2, .Name z q3] kk pt] [] pos) (tCB (rIsiT G.K) (tCons ta (tCons (tTup (tCons (tC (.ty T)) (tCons (tC (.ty U)) tNil))) tNil))) (wIsi2 T U wa) :=
  ⟨pe_callB (by rw [← hK]; exact call_isiT) hg hm (by decide +kernel) (pa_cons ha.pe (pa_cons (pe_tup (pa_cons (pe_bltn hg2 hm2 hv2 rfl hn2 hd2) (pa_cons (pe_bltn hg3 hm3 hv3 rfl hn3 hd3) pa_nil he4) he3)) pa_nil he2) he) (by decide) (by decide) he hpl, sim_isi2 hT hU ha.sim⟩

theorem de_append (hK : X.K = G.K) (i : Nat) {x : Str} {apos : Pos} (he : DE X G W e te we) (hN : X.N[i]? = some x := by rfl) (hv : Vis X.env.scope x := by first | exact Or.inl rfl | exact Or.inr (Or.inl rfl) | exact Or.inr (Or.inr rfl)) (hd : (x == ("__debug__" : Str)) = false := by decide)
    (hcd : (x == ("__classdict__" : Str)) = false := by decide) (h1 : attributeBase (.Name x p) "append" X.env (eval (.Name x p) X.env) = eval (.Name x p) X.env := by rfl)
    (h2 : (((backTo pos (starEach (e :: []) X.env)).all fun x => !x.fst) && (backToKw pos (keywordEach [] X.env)).all (fun x => x.fst.isSome) && decide (((e :: ([] : List Expr)).length + ([] : List Keyword).length + if ([] : List Keyword).isEmpty = true then 0 else 1) < 30)) = true := by rfl)
    (h3 : (apos.endLine == pos.line) = true := by rfl) (h4 : starEach (e :: []) X.env = (false, eval e X.env) :: starEach [] X.env := by rfl) (h5 : (backTo pos (starEach [] X.env)).any (·.1) = false := by rfl) :
    DE X G W (.Call (.Attribute (.Name x p) "append" apos) [e] [] pos) (tBM G.K "list" rAppend (tVar i) (tCons te tNil)) (wMut i fAppend (wCons we wNil)) :=
  ⟨by rw [← hK]; exact pe_bm PySem.F.plainAttrs_list PySem.F.slot_list_append PySem.F.type_list_append mt_append (pe_var hN hv hd hcd) (pa_cons he.pe pa_nil h4) h1 h2 h3 h4 h5, sim_mut i sem_append (sim_cons he.sim sim_nil)⟩

def rPopA : V → List V → Hp → VK → Prop := fun x vs H Q => rPop x vs H Q ∨ rPopAt x vs H Q
theorem de_pop1 (hK : X.K = G.K) (i : Nat) {x : Str} {apos : Pos} (he : DE X G W e te we) (hN : X.N[i]? = some x := by rfl) (hv : Vis X.env.scope x := by first | exact Or.inl rfl | exact Or.inr (Or.inl rfl) | exact Or.inr (Or.inr rfl)) (hd : (x == ("__debug__" : Str)) = false := by decide)
    (hcd : (x == ("__classdict__" : Str)) = false := by decide) (h1 : attributeBase (.Name x p) "pop" X.env (eval (.Name x p) X.env) = eval (.Name x p) X.env := by rfl)
    (h2 : (((backTo pos (starEach (e :: []) X.env)).all fun x => !x.fst) && (backToKw pos (keywordEach [] X.env)).all (fun x => x.fst.isSome) && decide (((e :: ([] : List Expr)).length + ([] : List Keyword).length + if ([] : List Keyword).isEmpty = true then 0 else 1) < 30)) = true := by rfl)
    (h3 : (apos.endLine == pos.line) = true := by rfl) (h4 : starEach (e :: []) X.env = (false, eval e X.env) :: starEach [] X.env := by rfl) (h5 : (backTo pos (starEach [] X.env)).any (·.1) = false := by rfl) :
    DE X G W (.Call (.Attribute (.Name x p) "pop" apos) [e] [] pos) (tBM G.K "list" rPopA (tVar i) (tCons te tNil)) (wMut i fPop (wCons we wNil)) :=
  ⟨by rw [← hK]; exact pe_bm PySem.F.plainAttrs_list PySem.F.slot_list_pop PySem.F.type_list_pop (MtR.or mt_pop mt_popAt) (pe_var hN hv hd hcd) (pa_cons he.pe pa_nil h4) h1 h2 h3 h4 h5, sim_mut i sem_pop (sim_cons he.sim sim_nil)⟩
theorem de_pop0 (hK : X.K = G.K) (i : Nat) {x : Str} {apos : Pos} (hN : X.N[i]? = some x := by rfl) (hv : Vis X.env.scope x := by first | exact Or.inl rfl | exact Or.inr (Or.inl rfl) | exact Or.inr (Or.inr rfl)) (hd : (x == ("__debug__" : Str)) = false := by decide)
    (hcd : (x == ("__classdict__" : Str)) = false := by decide) (h1 : attributeBase (.Name x p) "pop" X.env (eval (.Name x p) X.env) = eval (.Name x p) X.env := by rfl)
    (h3 : (apos.endLine == pos.line) = true := by rfl) :
    DE X G W (.Call (.Attribute (.Name x p) "pop" apos) [] [] pos) (tBM0 G.K "list" rPopA (tVar i)) (wMut0 i fPop) :=
  ⟨by rw [← hK]; exact pe_bm0 PySem.F.plainAttrs_list PySem.F.slot_list_pop PySem.F.type_list_pop (MtR.or mt_pop mt_popAt) (pe_var hN hv hd hcd) h1 h3, sim_mut0 i sem_pop⟩
theorem de_get2 {apos : Pos} {f : Expr} {tf : TE} {wf : WE} (hu : X.A.units + 65 < cLine) (ho : DE X G W o to wo) (he : DE X G W e te we) (hf : DE X G W f tf wf) (m1 : attributeBase o "get" X.env (eval o X.env) = eval o X.env := by rfl)
    (m2 : ((backTo pos (starEach [e, f] X.env)).all (fun x => !x.1) && (backToKw pos (keywordEach [] X.env)).all (fun x => x.1.isSome) && decide (([e, f] : List Expr).length + ([] : List Keyword).length + (if ([] : List Keyword).isEmpty then 0 else 1) < 30)) = true := by rfl)
    (m3 : (apos.endLine == pos.line) = true := by rfl) (m4 : backTo pos (starEach [e, f] X.env) = [(false, eval e X.env), (false, eval f X.env)] := by rfl) : DE X G W (.Call (.Attribute o "get" apos) [e, f] [] pos) (tDGet2 to te tf) (wDGet2 wo we wf) :=
  ⟨pe_dget2 (by omega) ho.pe he.pe hf.pe ⟨m1, m2, m3, m4⟩, sim_dget2 ho.sim he.sim hf.sim⟩
def CPowW (i j : Int) : Prop := 0 ≤ j ∧ (Builtin.Int.intBits i : Int) * j ≤ 2 ^ 27
theorem op_powW : OpR X (binaryOp .Pow) (rI CPowW fun i j => .int (i ^ j.toNat)) := opI fun _ _ _ _ _ _ _ hc q => PyProof.Rows.pow_int hc.1 hc.2 q
theorem sem_powW : Sem2 G (rI CPowW fun i j => .int (i ^ j.toNat)) (oII CPowW fun i j => i ^ j.toNat) := sem_II (fun _ _ h => h) fun _ _ _ => rfl
theorem de_pow (ha : DE X G W a ta wa) (hb : DE X G W b tb wb) : DE X G W (.BinOp a .Pow b pos) (tOp (rI CPowW fun i j => .int (i ^ j.toNat)) ta tb) (wOp (oII CPowW fun i j => i ^ j.toNat) wa wb) := de_op op_powW sem_powW ha hb
def wRevL (wa : WE) : WE := fun Γ Q X => wa Γ (fun r Γ1 => rdW r Γ1 fun d => isL d fun ds => Q (.ow (.list ds.reverse)) Γ1) X

theorem hu65 {A : Around} {k : Nat} (hr : Room k A) : A.units + 65 < cLine := Nat.lt_of_le_of_lt (Nat.add_le_add_left (by omega : 65 ≤ 16 * k + 200) _) (Nat.add_assoc _ _ _ ▸ hr.un)

def Gd (P : Program) (wd : World) (G : Gb) (mg : Str → Option Value) (base : Heap) (k : Nat) (x : Str) (fs : FS) (ps : List Str) (dvs : List V) : Prop :=
  ∃ (f : Addr) (fd : FuncData), mg x = some (.ref f) ∧ PySem.W.keepIn G.K (.ref f) = true ∧ FnOk P wd G.K mg base (L2N.CX P wd) k f fd ps (lift G fs) ∧ ∃ ds, Vals dvs ds ∧ Binds G.K fd ps ds
theorem Gd.mono {P : Program} {wd : World} {mg : Str → Option Value} {base : Heap} {k k' : Nat} {x : Str} {fs : FS} {ps : List Str} {dvs : List V} (h : Gd P wd G mg base k x fs ps dvs) (l : k ≤ k') : Gd P wd G mg base k' x fs ps dvs :=
  let ⟨f, fd, h1, h2, h3, h4⟩ := h
  ⟨f, fd, h1, h2, h3.mono l, h4⟩
section
variable {k : Nat} {x : Str} {fs : FS} {ps : List Str} {dvs : List V} {dvd : List D}
theorem de_callD (hK : X.K = G.K) (F : Gd X.prog X.w G X.mg X.base k x fs ps dvs) (hr : Room k X.A) (tk : L2N.Takes X W) (hd : ∀ Hi, Reps G.K Hi dvs dvd) (ha : DA X G W (e :: es) t w) (hg : Gl X x := by rfl) (hdb : (x == ("__debug__" : Str)) = false := by decide)
    (he : starEach (e :: es) X.env = (false, eval e X.env) :: starEach es X.env := by rfl) (hpl : (backTo pos (starEach es X.env)).any (·.1) = false := by rfl) :
    DE X G W (.Call (.Name x p) (e :: es) [] pos) (tCallSD (lift G fs) dvs (L2.WE W) t) (wCall fs dvd w) := by
  obtain ⟨f, fd, h1, h2, h3, ds, h4, h5⟩ := F
  rw [← hK] at h2 h5
  refine ⟨pe_callSD ?_ hr hg h1 h2 h5 h4 (L2N.passAt tk) ha.pe hdb he hpl, sim_callSD hd ha.sim⟩
  rw [hK]; exact h3
theorem de_call (hK : X.K = G.K) (F : Gd X.prog X.w G X.mg X.base k x fs ps []) (hr : Room k X.A) (tk : L2N.Takes X W) (ha : DA X G W (e :: es) t w) (hg : Gl X x := by rfl) (hdb : (x == ("__debug__" : Str)) = false := by decide)
    (he : starEach (e :: es) X.env = (false, eval e X.env) :: starEach es X.env := by rfl) (hpl : (backTo pos (starEach es X.env)).any (·.1) = false := by rfl) :
    DE X G W (.Call (.Name x p) (e :: es) [] pos) (tCallSD (lift G fs) [] (L2.WE W) t) (wCall fs [] w) := de_callD hK F hr tk (fun _ => .nil) ha hg hdb he hpl
theorem de_callIoD (hK : X.K = G.K) (i : Nat) {y : Str} (F : Gd X.prog X.w G X.mg X.base k x fs ps dvs) (hr : Room k X.A) (tk : L2N.Takes X W) (hd : ∀ Hi, Reps G.K Hi dvs dvd) (ha : DA X G W es t w) (hN : X.N[i]? = some y := by rfl) (hv : Vis X.env.scope y := by first | exact Or.inl rfl | exact Or.inr (Or.inl rfl) | exact Or.inr (Or.inr rfl))
    (hd2 : (y == ("__debug__" : Str)) = false := by decide) (hcd : (y == ("__classdict__" : Str)) = false := by decide) (hg : Gl X x := by rfl) (hdb : (x == ("__debug__" : Str)) = false := by decide)
    (he : starEach (.Name y p2 :: es) X.env = (false, eval (.Name y p2) X.env) :: starEach es X.env := by rfl) (hpl : (backTo pos (starEach es X.env)).any (·.1) = false := by rfl) :
    DE X G W (.Call (.Name x p) (.Name y p2 :: es) [] pos) (tCallSD (lift G fs) dvs (L2.WE W) (tCons (tVar i) t)) (wCallIo fs i dvd w) := by
  obtain ⟨f, fd, h1, h2, h3, ds, h4, h5⟩ := F
  rw [← hK] at h2 h5
  refine ⟨pe_callSD ?_ hr hg h1 h2 h5 h4 (L2N.passAt tk) (pa_cons (pe_var hN hv hd2 hcd) ha.pe he) hdb he hpl, sim_callIoSD i hd ha.sim⟩
  rw [hK]; exact h3
theorem de_callIo (hK : X.K = G.K) (i : Nat) {y : Str} (F : Gd X.prog X.w G X.mg X.base k x fs ps []) (hr : Room k X.A) (tk : L2N.Takes X W) (ha : DA X G W es t w) (hN : X.N[i]? = some y := by rfl) (hv : Vis X.env.scope y := by first | exact Or.inl rfl | exact Or.inr (Or.inl rfl) | exact Or.inr (Or.inr rfl))
    (hd2 : (y == ("__debug__" : Str)) = false := by decide) (hcd : (y == ("__classdict__" : Str)) = false := by decide) (hg : Gl X x := by rfl) (hdb : (x == ("__debug__" : Str)) = false := by decide)
    (he : starEach (.Name y p2 :: es) X.env = (false, eval (.Name y p2) X.env) :: starEach es X.env := by rfl) (hpl : (backTo pos (starEach es X.env)).any (·.1) = false := by rfl) :
    DE X G W (.Call (.Name x p) (.Name y p2 :: es) [] pos) (tCallSD (lift G fs) [] (L2.WE W) (tCons (tVar i) t)) (wCallIo fs i [] w) := de_callIoD hK i F hr tk (fun _ => .nil) ha hN hv hd2 hcd hg hdb he hpl
end
def flatR : R → Prop
  | .sh d => flatD d = true
  | .ow (.list l) => l.all flatD = true
  | _ => False
def wCallB (fs : FS) (dv : List D) (wa : WA) : WE := fun Γ Q X => wa Γ (fun rs Γ1 => rdAll rs Γ1 fun ds => fs none (ds ++ dv) (fun r _ => flatR r ∧ Q r Γ1) fun x _ => x.idx = none ∧ X x Γ1) X
theorem Rep.flat_any {K : Fg} {H H' : Hp} {v : V} {d : D} (h : Rep K H v d) (f : flatD d = true) : Rep K H' v d := by
  cases h with
  | non => exact .non
  | bl b => exact .bl b
  | int i => exact .int i
  | str x => exact .str x
  | _ => cases f
theorem Reps.flat_any {K : Fg} {H H' : Hp} : ∀ {vs : List V} {ds : List D}, Reps K H vs ds → ds.all flatD = true → Reps K H' vs ds
  | _, _, .nil, _ => .nil
  | _, _, .cons h r, f => by
    rw [List.all_cons, Bool.and_eq_true] at f
    exact .cons (h.flat_any f.1) (Reps.flat_any r f.2)
theorem Rdbs.reps {K : Fg} {Hi H : Hp} (e : Ext Hi H) : ∀ {vs : List V} {ds : List D}, Rdbs K Hi H vs ds → Reps K H vs ds
  | _, _, .nil => .nil
  | _, _, .cons h r => .cons (h.rep e) (Rdbs.reps e r)
theorem sim_callB {fs : FS} {dvs : List V} {dv : List D} (hd : ∀ Hi, Reps G.K Hi dvs dv) (ha : SimA G W t w) : SimE G W (tCallSD (lift G fs) dvs (L2.WE W) t) (wCallB fs dv w) := by
  intro C Hi σ H Γ Q Qd Xd c hw hQ hX
  refine ha C Hi σ H Γ _ _ Xd c hw (fun vs rs H1 Hi1 Γ1 e1 c1 h1 q1 => ?_) hX
  obtain ⟨ds, bs, q2⟩ := h1.read c1 q1
  have rp := bs.reps c1.imm
  refine ⟨none, ds ++ dv, H1, _, _, [], vs ++ dvs, [], rfl, ⟨rfl, rfl⟩, rp.append (hd H1), Ext.refl _, fun a ha => (nomatch ha), q2, fun v r H' Hi' io' fp' L ra ⟨fl, q⟩ => ?_, fun x cl d H' Hi' io' fp' L hx q => ?_⟩
  · have k : Ext H1 H' := fun a o h => L.keep a o h (fun z => nomatch z)
    have c3 := c1.grow k (Ext.refl _) (c1.imm.trans k) fun _ _ z => .inl z
    cases r with
    | sh d => exact hQ v (.sh d) H' Hi1 Γ1 e1 ⟨c3, Rep.flat_any ra fl⟩ q
    | vr i => exact ra.elim
    | op t d => exact fl.elim
    | ow d =>
      obtain ⟨p, rfl, ow, hn, h0, hnf⟩ := ra
      cases d with
      | list l =>
        cases ow with
        | lst hl rl =>
          obtain ⟨fpc, c1⟩ := c1
          obtain ⟨n1, n2⟩ := c1.fresh h0
          have c4 := c1.grow k (Ext.refl _) (c1.imm.trans k) fun _ _ z => .inl z
          refine hQ _ (.ow (.list l)) H' Hi1 Γ1 e1 ⟨c4.len, _, c4.push2 (x := some (.ref p)) (l := [p]) (s := .ow (.list l)) ⟨p, rfl, rfl, .lst hl (rl.flat_any fl), n2⟩ fun a ha => ?_⟩ q
          have : a = p := by simpa using ha
          subst this
          exact ⟨n1, fun j hj hm => by obtain ⟨o, z⟩ := c1.trk hj hm; rw [h0] at z; cases z⟩
      | _ => exact fl.elim
  · have k : Ext H1 H' := fun a o h => L.keep a o h (fun z => nomatch z)
    exact hX x cl d H' Hi1 Γ1 e1 (c1.grow k (Ext.refl _) (c1.imm.trans k) fun _ _ z => .inl z) (xr_none q.1 hx) q.2
theorem de_callBD {k : Nat} {x : Str} {fs : FS} {ps : List Str} {dvs : List V} {dvd : List D} (hK : X.K = G.K) (F : Gd X.prog X.w G X.mg X.base k x fs ps dvs) (hr : Room k X.A) (tk : L2N.Takes X W) (hd : ∀ Hi, Reps G.K Hi dvs dvd) (ha : DA X G W (e :: es) t w) (hg : Gl X x := by rfl) (hdb : (x == ("__debug__" : Str)) = false := by decide)
    (he : starEach (e :: es) X.env = (false, eval e X.env) :: starEach es X.env := by rfl) (hpl : (backTo pos (starEach es X.env)).any (·.1) = false := by rfl) :
    DE X G W (.Call (.Name x p) (e :: es) [] pos) (tCallSD (lift G fs) dvs (L2.WE W) t) (wCallB fs dvd w) := by
  obtain ⟨f, fd, h1, h2, h3, ds, h4, h5⟩ := F
  rw [← hK] at h2 h5
  refine ⟨pe_callSD ?_ hr hg h1 h2 h5 h4 (L2N.passAt tk) ha.pe hdb he hpl, sim_callB hd ha.sim⟩
  rw [hK]; exact h3
theorem de_callB {k : Nat} {x : Str} {fs : FS} {ps : List Str} (hK : X.K = G.K) (F : Gd X.prog X.w G X.mg X.base k x fs ps []) (hr : Room k X.A) (tk : L2N.Takes X W) (ha : DA X G W (e :: es) t w) (hg : Gl X x := by rfl) (hdb : (x == ("__debug__" : Str)) = false := by decide)
    (he : starEach (e :: es) X.env = (false, eval e X.env) :: starEach es X.env := by rfl) (hpl : (backTo pos (starEach es X.env)).any (·.1) = false := by rfl) :
    DE X G W (.Call (.Name x p) (e :: es) [] pos) (tCallSD (lift G fs) [] (L2.WE W) t) (wCallB fs [] w) := de_callBD hK F hr tk (fun _ => .nil) ha hg hdb he hpl
def wLenS (i : Nat) : WE := fun Γ Q _ => match Γ[i]? with
  | some (.op 0 (.list l)) => Q (.sh (.int (l.length : Int))) Γ
  | _ => False
def wIxS (i : Nat) (wa : WE) : WE := fun Γ Q X => isOwn Γ i ∧ wa Γ (fun r Γ1 => rdW r Γ1 fun d => isI d fun n => match Γ1[i]? with
  | some (.op 0 (.list l)) => (match atI l n with
    | some d => Q (.sh d) Γ1
    | none => False)
  | _ => False) X

variable {tg : Expr} {tI : TI} {wI : WI}
theorem di_list (hK : X.K = G.K) (h : DE X G W a ta wa) : DI X G W tg a (iList G.K ta) (wiL wa) := ⟨by rw [← hK]; exact pi_list h.pe, simi_list h.sim⟩
theorem di_str (h : DE X G W a ta wa) : DI X G W tg a (iStr ta) (wiS wa) := ⟨pi_str h.pe, simi_str h.sim⟩
theorem di_range1 (hm : X.mg "range" = none) (h : DA X G W [a] t w) (hg : Gl X "range" := by rfl) (hs : starEach [a] X.env = [(false, eval a X.env)] := by rfl) : DI X G W tg (.Call (.Name "range" p) [a] [] pos) (iRng1 t) (wiR1 w) := ⟨pi_range1 hg hm h.pe hs, simi_range1 h.sim⟩
theorem di_enum {kk : Nat} {elts : List Expr} (hK : X.K = G.K) (hm : X.mg "enumerate" = none) (h : DA X G W [a] t w) (hg : Gl X "enumerate" := by rfl) (hs : starEach [a] X.env = [(false, eval a X.env)] := by rfl) :
    DI X G W (.Tuple elts kk p2) (.Call (.Name "enumerate" p) [a] [] pos) (iEnum G.K t) (wiA enumD w) := ⟨by rw [← hK]; exact pi_enum hg hm h.pe hs, simi_enum h.sim⟩
theorem dg_name (i : Nat) {x : Str} (hN : X.N.Nodup) (hi : X.N[i]? = some x := by rfl) (hx : L2.Loc X.env.scope x := by first | exact .inl rfl | exact .inr rfl) (hf : X.fn x = true ∨ X.env.scope.names.lookup x = some .local := by first | exact .inl rfl | exact .inr rfl) :
    DG X G (.Name x pos) (gName i) (wgName i) := ⟨pg_name hN hi hx hf, simg_name i⟩
theorem dgs_nil : DGs X G [] gNil wgNil := ⟨pgs_nil, simg_nil⟩
variable {g : TG} {gs : TGs} {wg : WG} {wgs : WGs} {vs : List Nat}
theorem dgs_cons (h : DG X G e g wg) (h2 : DGs X G es gs wgs) (h3 : (assignEach (e :: es) X.env).map (·.2) = assign e X.env :: (assignEach es X.env).map (·.2) := by rfl) : DGs X G (e :: es) (gCons g gs) (wgCons wg wgs) := ⟨pgs_cons h.pe h2.pe h3, simg_cons h.sim h2.sim⟩
theorem dg_tup {k n : Nat} (hK : X.K = G.K) (hc : X.calm = true) (h : DGs X G es gs wgs) (h1 : (assignEach es X.env).length = n := by rfl) (h2 : (assignEach es X.env).findIdx? (·.1) = none := by rfl) : DG X G (.Tuple es k pos) (gTup G.K n gs) (wgTup n wgs) :=
  ⟨by rw [← hK]; exact pg_tup hc h.pe h1 h2, simg_tup h.sim⟩
theorem dgw_name (i : Nat) {x : Str} (hN : X.N.Nodup) (hm : i ∈ vs := by decide) (hi : X.N[i]? = some x := by rfl) (hx : L2.Loc X.env.scope x := by first | exact .inl rfl | exact .inr rfl) (hf : X.fn x = true ∨ X.env.scope.names.lookup x = some .local := by first | exact .inl rfl | exact .inr rfl) :
    DGw X G vs (.Name x pos) (gName i) (wgName i) := ⟨pg_name hN hi hx hf, simgw_name i hm⟩
theorem dgsw_nil : DGsw X G vs [] gNil wgNil := ⟨pgs_nil, simgw_nil⟩
theorem dgsw_cons (h : DGw X G vs e g wg) (h2 : DGsw X G vs es gs wgs) (h3 : (assignEach (e :: es) X.env).map (·.2) = assign e X.env :: (assignEach es X.env).map (·.2) := by rfl) : DGsw X G vs (e :: es) (gCons g gs) (wgCons wg wgs) := ⟨pgs_cons h.pe h2.pe h3, simgw_cons h.sim h2.sim⟩
theorem dgw_tup {k n : Nat} (hK : X.K = G.K) (hc : X.calm = true) (h : DGsw X G vs es gs wgs) (h1 : (assignEach es X.env).length = n := by rfl) (h2 : (assignEach es X.env).findIdx? (·.1) = none := by rfl) : DGw X G vs (.Tuple es k pos) (gTup G.K n gs) (wgTup n wgs) :=
  ⟨by rw [← hK]; exact pg_tup hc h.pe h1 h2, simgw_tup h.sim⟩
theorem dts_nil : DTs X G W [] tYes wYes := ⟨pts_nil, sim_yes⟩
theorem dts_one (h : DT X G W a tt wt) : DTs X G W [a] tt wt := ⟨pts_one h.pe, h.sim⟩
abbrev Blk (X : Cx) (scope : Scope) (s : Shared) (H : Hp) (C : Addr) (cl : List (Str × Addr)) (fp : List Addr) : Cx := X.blk s H scope (compEnvC scope cl C X.env) fp
variable {ifs : List Expr} {scope : Scope} {own : List (Str × Nat)}
theorem de_lc (hc : X.calm = true) (hN : X.N.Nodup) (hi : DI X G W tg a tI wI) (ok : BlkOk X.N X.env.scope scope own) (nd : (own.map (·.2)).Nodup)
    (hg : ∀ s H C cl fp, DGw (Blk X scope s H C cl fp) G (own.map (·.2)) tg g wg) (ht : ∀ s H C cl fp, DTs (Blk X scope s H C cl fp) G noW ifs tt wt) (he : ∀ s H C cl fp, DE (Blk X scope s H C cl fp) G noW e te we) (hs : ∀ x, foldedSetIterable a X.env x = pure x := by intro _; rfl) :
    DE X G W (.ListComp e [⟨tg, a, ifs, 0⟩] scope pos) (tLc tI g tt te (own.map (·.2))) (wLc (own.map (·.2)) wI wg wt we) :=
  ⟨pe_lc hc hN hi.pe ok (fun s H C cl fp => (hg s H C cl fp).pe) (fun s H C cl fp => (ht s H C cl fp).pe) (fun s H C cl fp => (he s H C cl fp).pe) hs,
    sim_lc nd hi.sim (hg X.s_0 X.H_0 0 [] []).sim (ht X.s_0 X.H_0 0 [] []).sim (he X.s_0 X.H_0 0 [] []).sim⟩
theorem ds_setLc {y : Str} {py spos : Pos} (i : Nat) (hc : X.calm = true) (hN : X.N.Nodup) (hi : DI X G W tg a tI wI) (ok : BlkOk X.N X.env.scope scope own) (nd : (own.map (·.2)).Nodup)
    (hg : ∀ s H C cl fp, DGw (Blk X scope s H C cl fp) G (own.map (·.2)) tg g wg) (ht : ∀ s H C cl fp, DTs (Blk X scope s H C cl fp) G noW ifs tt wt) (he : ∀ s H C cl fp, DE (Blk X scope s H C cl fp) G noW e te we)
    (hsw : swapsWith (.ListComp e [⟨tg, a, ifs, 0⟩] scope pos) (some (.Name y py)) spos.line X.env = pure true) (hy : X.N[i]? = some y := by rfl) (hyl : X.env.scope.names.lookup y = some .local := by rfl) (hs : ∀ x, foldedSetIterable a X.env x = pure x := by intro _; rfl) :
    DS X G W (.Assign [.Name y py] (.ListComp e [⟨tg, a, ifs, 0⟩] scope pos) spos) (tAsg (tLc tI g tt te (own.map (·.2))) (gName i)) (wSet i (wLc (own.map (·.2)) wI wg wt we)) :=
  ⟨ps_setLc hc hN hy hyl hsw hi.pe ok (fun s H C cl fp => (hg s H C cl fp).pe) (fun s H C cl fp => (ht s H C cl fp).pe) (fun s H C cl fp => (he s H C cl fp).pe) hs,
    sim_set i (sim_lc nd hi.sim (hg X.s_0 X.H_0 0 [] []).sim (ht X.s_0 X.H_0 0 [] []).sim (he X.s_0 X.H_0 0 [] []).sim)⟩
theorem de_dc {tk tv : TE} {wk wv : WE} {kx vx : Expr} (hc : X.calm = true) (hN : X.N.Nodup) (hi : DI X G W tg a tI wI) (ok : BlkOk X.N X.env.scope scope own) (nd : (own.map (·.2)).Nodup)
    (hg : ∀ s H C cl fp, DGw (Blk X scope s H C cl fp) G (own.map (·.2)) tg g wg) (ht : ∀ s H C cl fp, DTs (Blk X scope s H C cl fp) G noW ifs tt wt) (hk : ∀ s H C cl fp, DE (Blk X scope s H C cl fp) G noW kx tk wk) (hv : ∀ s H C cl fp, DE (Blk X scope s H C cl fp) G noW vx tv wv)
    (hs : ∀ x, foldedSetIterable a X.env x = pure x := by intro _; rfl) :
    DE X G W (.DictComp kx vx [⟨tg, a, ifs, 0⟩] scope pos) (tDc tI g tt tk tv (own.map (·.2))) (wDc (own.map (·.2)) wI wg wt wk wv) :=
  ⟨pe_dc hc hN hi.pe ok (fun s H C cl fp => (hg s H C cl fp).pe) (fun s H C cl fp => (ht s H C cl fp).pe) (fun s H C cl fp => (hk s H C cl fp).pe) (fun s H C cl fp => (hv s H C cl fp).pe) hs,
    sim_dc nd hi.sim (hg X.s_0 X.H_0 0 [] []).sim (ht X.s_0 X.H_0 0 [] []).sim (hk X.s_0 X.H_0 0 [] []).sim (hv X.s_0 X.H_0 0 [] []).sim⟩

variable {st : Stmt} {sts b1 b2 : List Stmt} {ts us : TS} {ws wu2 : WS}
theorem db_nil : DB X G W [] tNext wNext := ⟨pss_nil, sim_next⟩
theorem db_one (h : DS X G W st ts ws) : DB X G W [st] ts ws := ⟨pss_one h.pe, h.sim⟩
theorem db_cons (h : DS X G W st ts ws) (h2 : DB X G W sts us wu2) : DB X G W (st :: sts) (tSeq ts us) (wSeq ws wu2) := ⟨pss_cons h.pe h2.pe, sim_seq h.sim h2.sim⟩
def wNev : WS := fun _ _ _ => False
theorem ds_never : DS X G W st tNever wNev := ⟨ps_never, fun C Hi σ H Γ Dn Dd Xd c hw _ _ _ _ _ => hw.elim⟩
theorem ds_expr (h : DE X G W e te we) (hs : swapsWith e none pos.line X.env = pure false := by rfl) : DS X G W (.Expr e pos) (tDrop te) (wDrop we) := ⟨ps_expr h.pe hs, sim_drop h.sim⟩
theorem ds_ret (h : DE X G W e te we) : DS X G W (.Return (some e) pos) (tRet te) (wRet we) := ⟨ps_ret h.pe, sim_ret h.sim⟩
theorem ds_if (hc : DT X G W c tt wt) (h1 : DB X G W b1 ts ws) (h2 : DB X G W b2 us wu2) : DS X G W (.If c b1 b2 pos) (tIfS tt ts us) (wIfS wt ws wu2) := ⟨ps_if hc.pe h1.pe h2.pe, sim_ifS hc.sim h1.sim h2.sim⟩
theorem ds_set (i : Nat) {x : Str} (hN : X.N.Nodup) (he : DE X G W e te we) (hi : X.N[i]? = some x := by rfl) (hx : L2.Loc X.env.scope x := by first | exact .inl rfl | exact .inr rfl) (hs : swapsWith e (some (.Name x pos')) pos.line X.env = pure false := by rfl)
    (hf : X.fn x = true ∨ X.env.scope.names.lookup x = some .local := by first | exact .inl rfl | exact .inr rfl) : DS X G W (.Assign [.Name x pos'] e pos) (tAsg te (gName i)) (wSet i we) := ⟨ps_set hN hi hx he.pe hs hf, sim_set i he.sim⟩
theorem ds_asg (he : DE X G W e te we) (hg : DG X G tg g wg) (hs : swapsWithSole [tg] e pos.line X.env = pure false := by rfl) (hw : swappedStores [tg] e X.env = pure none := by rfl) (ha : (assignEach [tg] X.env).map (·.2) = [assign tg X.env] := by rfl) :
    DS X G W (.Assign [tg] e pos) (tAsg te g) (wAsg we wg) := ⟨ps_asg he.pe hg.pe hs hw ha, sim_asg he.sim hg.sim⟩
theorem ds_par (i j : Nat) {x y : Str} {px py pt pt2 : Pos} {kt k2 : Nat} {wsl : WSl} (hc : X.calm = true) (hN : X.N.Nodup) (ha : DSl X G W [a, b] t wsl) (hij : i ≠ j := by decide) (hi : X.N[i]? = some x := by rfl) (hj : X.N[j]? = some y := by rfl)
    (hx : X.env.scope.names.lookup x = some .local := by rfl) (hy : X.env.scope.names.lookup y = some .local := by rfl) (hsw : swappedStores [.Tuple [.Name x px, .Name y py] kt pt] (.Tuple [a, b] k2 pt2) X.env = pure (some [x, y]) := by rfl)
    (hs : swapsWithSole [.Tuple [.Name x px, .Name y py] kt pt] (.Tuple [a, b] k2 pt2) pos.line X.env = pure false := by rfl) :
    DS X G W (.Assign [.Tuple [.Name x px, .Name y py] kt pt] (.Tuple [a, b] k2 pt2) pos) (tPar i j t) (wPar [i, j] wsl) := ⟨ps_par hc hN hi hj hij hx hy ha.pe hsw hs, sim_par ha.sim⟩
theorem ds_par3 (i j l : Nat) {x y z : Str} {px py pz pt pt2 : Pos} {kt k2 : Nat} {wsl : WSl} (hc : X.calm = true) (hN : X.N.Nodup) (ha : DSl X G W [a, b, c] t wsl) (hij : i ≠ j := by decide) (hil : i ≠ l := by decide) (hjl : j ≠ l := by decide) (hi : X.N[i]? = some x := by rfl) (hj : X.N[j]? = some y := by rfl) (hl : X.N[l]? = some z := by rfl)
    (hx : X.env.scope.names.lookup x = some .local := by rfl) (hy : X.env.scope.names.lookup y = some .local := by rfl) (hz : X.env.scope.names.lookup z = some .local := by rfl) (hsw : swappedStores [.Tuple [.Name x px, .Name y py, .Name z pz] kt pt] (.Tuple [a, b, c] k2 pt2) X.env = pure (some [x, y, z]) := by rfl)
    (hs : swapsWithSole [.Tuple [.Name x px, .Name y py, .Name z pz] kt pt] (.Tuple [a, b, c] k2 pt2) pos.line X.env = pure false := by rfl) :
    DS X G W (.Assign [.Tuple [.Name x px, .Name y py, .Name z pz] kt pt] (.Tuple [a, b, c] k2 pt2) pos) (tPar3 i j l t) (wPar [i, j, l] wsl) := ⟨ps_par3 hc hN hi hj hl hij hil hjl hx hy hz ha.pe hsw hs, sim_par3 ha.sim⟩
theorem pg_names {is : List Nat} {n k k2 : Nat} {pt2 : Pos} {wsl : WSl} (hK : X.K = G.K) (hc : X.calm = true) (ha : DSl X G W es t wsl) {ts' : List Expr} (hg : PGs X ts' (gNames is)) (hn : is.length = n) (hs : n ≤ 1000)
    (h1 : (assignEach ts' X.env).length = n := by rfl) (h2 : (assignEach ts' X.env).findIdx? (·.1) = none := by rfl)
    (hsw : swapsWithSole [.Tuple ts' k p2] (.Tuple es k2 pt2) pos.line X.env = pure false := by rfl) (hw : swappedStores [.Tuple ts' k p2] (.Tuple es k2 pt2) X.env = pure none := by rfl) (hq : (assignEach [.Tuple ts' k p2] X.env).map (·.2) = [assign (.Tuple ts' k p2) X.env] := by rfl) :
    DS X G W (.Assign [.Tuple ts' k p2] (.Tuple es k2 pt2) pos) (tAsg (tTup t) (gTup G.K n (gNames is))) (wPar is wsl) :=
  ⟨ps_asg (pe_tup ha.pe) (by rw [← hK]; exact pg_tup hc hg h1 h2) hsw hw hq, sim_parT hn hs ha.sim⟩
theorem ds_for (hp : PassesOwn (model X.prog X.w) X.A X.env X.xe) (hc : X.calm = true) (hi : DI X G W tg a tI wI) (hg : DG X G tg g wg) (hb : DB X G W b1 ts ws) (hs : ∀ x, foldedSetIterable a X.env x = pure x := by intro _; rfl) :
    DS X G W (.For tg a b1 [] pos) (tFor tI g ts) (wFor wI wg ws) := ⟨ps_for hp hc hi.pe hg.pe hb.pe hs, sim_for hi.sim hg.sim hb.sim⟩
theorem ds_while (hp : PassesOwn (model X.prog X.w) X.A X.env X.xe) (hc : DT X G W c tt wt) (hb : DB X G W b1 ts ws) : DS X G W (.While c b1 [] pos) (tWhile tt ts) (wWhile wt ws) := ⟨ps_while hp hc.pe hb.pe, sim_while hc.sim hb.sim⟩
theorem ds_dput (hu : X.A.units + 65 < cLine) (i : Nat) {x : Str} {k : Expr} {px ps' : Pos} (hk : DE X G W k tb wb) (hv : DE X G W a ta wa) (hN : X.N[i]? = some x := by rfl) (hvis : Vis X.env.scope x := by first | exact Or.inl rfl | exact Or.inr (Or.inl rfl) | exact Or.inr (Or.inr rfl))
    (hd : (x == ("__debug__" : Str)) = false := by decide) (hcd : (x == ("__classdict__" : Str)) = false := by decide) (hs : swapsWith a (some (.Subscript (.Name x px) k ps')) pos.line X.env = pure false := by rfl) :
    DS X G W (.Assign [.Subscript (.Name x px) k ps'] a pos) (sDPut (tVar i) tb ta) (wDPut i wb wa) := ⟨ps_dput (by omega) (pe_var hN hvis hd hcd) hk.pe hv.pe hs, sim_dput i hk.sim hv.sim⟩
theorem ds_lput (i : Nat) {x : Str} {k : Expr} {px ps' : Pos} (hk : DE X G W k tb wb) (hv : DE X G W a ta wa) (hN : X.N[i]? = some x := by rfl) (hvis : Vis X.env.scope x := by first | exact Or.inl rfl | exact Or.inr (Or.inl rfl) | exact Or.inr (Or.inr rfl))
    (hd : (x == ("__debug__" : Str)) = false := by decide) (hcd : (x == ("__classdict__" : Str)) = false := by decide)
    (hq : ∀ v, assign (.Subscript (.Name x px) k ps') X.env v = (do let ov ← holding [v] (eval (.Name x px) X.env); let iv ← holding [v, ov] (eval k X.env); standAt ps'; holding [v, ov, iv] (setItem ov iv v); release [v, ov, iv] []) := by intro _; rfl)
    (hs : swapsWithSole [.Subscript (.Name x px) k ps'] a pos.line X.env = pure false := by rfl) (hw : swappedStores [.Subscript (.Name x px) k ps'] a X.env = pure none := by rfl) (ha : (assignEach [.Subscript (.Name x px) k ps'] X.env).map (·.2) = [assign (.Subscript (.Name x px) k ps') X.env] := by rfl) :
    DS X G W (.Assign [.Subscript (.Name x px) k ps'] a pos) (tAsg ta (gSub (tVar i) tb rSetL)) (wLPut i wb wa) := ⟨ps_asg hv.pe (pg_sub (pe_var hN hvis hd hcd) hk.pe set_list hq) hs hw ha, sim_lput i hk.sim hv.sim⟩
end
end VL

set_option Elab.async false
set_option linter.all false
set_option maxRecDepth 100000
namespace VL
open PySem L2

def ScrOk (K : Fg) (t : Nat) (d : D) (H : Hp) (p : Addr) (fp : List Addr) : Prop := t % 10 = 0 ∧ ∃ ns : List Int, d = .list (ns.map .int) ∧
  ((fp = [] ∧ ∃ (o : Obj) (its : Array Value) (n : Nat), K.lookup p = some o ∧ o.cls = .type "list" ∧ o.dict = none ∧ o.data = .seq its n ∧ its.size ≤ sizeLine ∧ Vals (ns.map V.int) its.toList) ∨ (fp = [p] ∧ Rd H p (.lst (ns.map V.int))))
def DeckOk (t : Nat) (d : D) (H : Hp) (p : Addr) (fp : List Addr) : Prop := t % 10 = 1 ∧ ∃ (n : Nat) (q : Addr) (ys : List Addr) (c : Int), d = .int (n : Int) ∧ fp = p :: q :: ys ∧ p ≠ q ∧ p ∉ ys ∧ q ∉ ys ∧
  H p = some (.lst [.ref q, .int c]) ∧ 0 ≤ c ∧ c ≤ (n : Int) ∧ H q = some (.lst (ys.map .ref)) ∧ ys ≠ [] ∧ ys.length ≤ 63 ∧ ∀ y ∈ ys, ∃ a f k : Int, H y = some (.lst [.int a, .int f, .int k]) ∧ 0 ≤ k ∧ k ≤ 3000 + (n : Int)
def KpD (cls : Value) (d : Option Addr) (a : Addr) : HO := .ext fun h => ∃ (oe : Obj) (vs : Array Value), h.get? a = some oe ∧ L2N.Zn cls d oe ∧ oe.data = .fields vs
abbrev KpO (cls : Value) (a : Addr) : HO := KpD cls none a
def KepOk (K : Fg) (t : Nat) (d : D) (H : Hp) (p : Addr) (fp : List Addr) : Prop := t % 10 = 2 ∧ ∃ nm : Str, d = .str nm ∧ fp = [p] ∧ H p = some (KpO (.ref (He.ga K nm)) p)
theorem ScrOk.loc {K : Fg} {t : Nat} {d : D} {H H' : Hp} {p : Addr} {fp : List Addr} (h : ScrOk K t d H p fp) (e : ∀ a ∈ fp, H' a = H a) : ScrOk K t d H' p fp := by
  obtain ⟨ht, ns, hd, h⟩ := h
  refine ⟨ht, ns, hd, ?_⟩
  rcases h with h | ⟨hf, h⟩
  · exact .inl h
  · refine .inr ⟨hf, ?_⟩
    have : H' p = H p := e p (by rw [hf]; simp)
    unfold Rd at h ⊢
    rw [this]
    exact h
theorem ScrOk.trk {K : Fg} {t : Nat} {d : D} {H : Hp} {p : Addr} {fp : List Addr} (h : ScrOk K t d H p fp) : ∀ a ∈ fp, ∃ o, H a = some o := by
  intro a ha
  obtain ⟨_, ns, _, h⟩ := h
  rcases h with ⟨hf, _⟩ | ⟨hf, h⟩
  · rw [hf] at ha; cases ha
  · rw [hf] at ha
    have : a = p := by simpa using ha
    subst this
    rcases h with h | ⟨o, h⟩
    · exact ⟨_, h⟩
    · exact ⟨_, h⟩
theorem DeckOk.loc {t : Nat} {d : D} {H H' : Hp} {p : Addr} {fp : List Addr} (h : DeckOk t d H p fp) (e : ∀ a ∈ fp, H' a = H a) : DeckOk t d H' p fp := by
  obtain ⟨ht, n, q, ys, c, hd, hf, h1, h2, h3, h4, h5, h6, h7, h8, h9, h10⟩ := h
  subst hf
  refine ⟨ht, n, q, ys, c, hd, rfl, h1, h2, h3, ?_, h5, h6, ?_, h8, h9, fun y hy => ?_⟩
  · rw [e p (by simp)]; exact h4
  · rw [e q (by simp)]; exact h7
  · rw [e y (by simp [hy])]; exact h10 y hy
theorem DeckOk.trk {t : Nat} {d : D} {H : Hp} {p : Addr} {fp : List Addr} (h : DeckOk t d H p fp) : ∀ a ∈ fp, ∃ o, H a = some o := by
  intro a ha
  obtain ⟨ht, n, q, ys, c, hd, hf, h1, h2, h3, h4, h5, h6, h7, h8, h9, h10⟩ := h
  subst hf
  simp only [List.mem_cons] at ha
  rcases ha with rfl | rfl | ha
  · exact ⟨_, h4⟩
  · exact ⟨_, h7⟩
  · obtain ⟨_, _, _, h, _⟩ := h10 a ha
    exact ⟨_, h⟩
theorem KepOk.loc {K : Fg} {t : Nat} {d : D} {H H' : Hp} {p : Addr} {fp : List Addr} (h : KepOk K t d H p fp) (e : ∀ a ∈ fp, H' a = H a) : KepOk K t d H' p fp := by
  obtain ⟨ht, nm, hd, hf, h1⟩ := h
  exact ⟨ht, nm, hd, hf, by rw [e p (by rw [hf]; simp)]; exact h1⟩
theorem KepOk.trk {K : Fg} {t : Nat} {d : D} {H : Hp} {p : Addr} {fp : List Addr} (h : KepOk K t d H p fp) : ∀ a ∈ fp, ∃ o, H a = some o := by
  intro a ha
  obtain ⟨ht, nm, hd, hf, h1⟩ := h
  rw [hf] at ha
  have : a = p := by simpa using ha
  subst this
  exact ⟨_, h1⟩
inductive Ix1 : V → D → Prop
  | non : Ix1 .non .none
  | int (i : Int) : Ix1 (.int i) (.int i)
def KxiOk (K : Fg) (t : Nat) (d : D) (Hi H : Hp) (p : Addr) (fp : List Addr) : Prop := t % 10 = 6 ∧ ∃ (nm : Str) (dx : Addr) (v : V) (dv : D), d = .tuple [.str nm, dv] ∧ fp = [p] ∧ H p = some (KpD (.ref (He.ga K nm)) (some dx) p) ∧ Hi dx = some (.xd [(("index" : Str), v)]) ∧ Ix1 v dv
theorem KxiOk.loc {K : Fg} {t : Nat} {d : D} {Hi Hi' H H' : Hp} {p : Addr} {fp : List Addr} (h : KxiOk K t d Hi H p fp) (ex : Ext Hi Hi') (e : ∀ a ∈ fp, H' a = H a) : KxiOk K t d Hi' H' p fp := by
  obtain ⟨ht, nm, dx, v, dv, hd, hf, h1, h2, h3⟩ := h
  exact ⟨ht, nm, dx, v, dv, hd, hf, by rw [e p (by rw [hf]; simp)]; exact h1, ex _ _ h2, h3⟩
theorem KxiOk.trk {K : Fg} {t : Nat} {d : D} {Hi H : Hp} {p : Addr} {fp : List Addr} (h : KxiOk K t d Hi H p fp) : ∀ a ∈ fp, ∃ o, H a = some o := by
  intro a ha
  obtain ⟨ht, nm, dx, v, dv, hd, hf, h1, _⟩ := h
  rw [hf] at ha
  have : a = p := by simpa using ha
  subst this
  exact ⟨_, h1⟩
theorem KxiOk.swp {K : Fg} {t : Nat} {d : D} {Hi H H' : Hp} {p a : Addr} {fp : List Addr} {u u' : HO} {kvs : List (Key × V)} (h : KxiOk K t d Hi H p fp) (ha : Hi a = some u) (e : Dual kvs u u') (k : ∀ b ∈ fp, H' b = H b) : KxiOk K t d (VL.swp Hi a u') H' p fp := by
  obtain ⟨ht, nm, dx, v, dv, hd, hf, h1, h2, h3⟩ := h
  have : dx ≠ a := fun z => by
    rw [z, ha] at h2
    injection h2 with h2
    rcases e.1 with q | ⟨o, q⟩
    · rw [q] at h2; cases h2
    · rw [q] at h2; cases h2
  exact ⟨ht, nm, dx, v, dv, hd, hf, by rw [k p (by rw [hf]; simp)]; exact h1, by rw [swp_ne this]; exact h2, h3⟩
def spec : Nat → List (Str × Bool)
  | 3 => [("own_score", false), ("elapsed", false), ("operations", true)]
  | 4 => [("scores", true)]
  | _ => []
def clsN : Nat → Str
  | 3 => "Player"
  | 4 => "Console"
  | _ => ""
inductive Fds (K : Fg) (Hi H : Hp) : List (Str × Bool) → List (Str × V) → List D → List Addr → Prop
  | nil {sp : List (Str × Bool)} : Fds K Hi H sp [] [] []
  | sh {f : Str} {v : V} {d : D} {sp : List (Str × Bool)} {fs : List (Str × V)} {ds : List D} {l : List Addr} : Rep K Hi v d → Fds K Hi H sp fs ds l → Fds K Hi H ((f, false) :: sp) ((f, v) :: fs) (d :: ds) l
  | ow {f : Str} {q : Addr} {d : D} {sp : List (Str × Bool)} {fs : List (Str × V)} {ds : List D} {l : List Addr} : Own K Hi H q d → q ∉ l → Fds K Hi H sp fs ds l → Fds K Hi H ((f, true) :: sp) ((f, .ref q) :: fs) (d :: ds) (q :: l)
theorem Fds.to {K : Fg} {Hi Hi' H H' : Hp} (e : Ext Hi Hi') : ∀ {sp : List (Str × Bool)} {fs : List (Str × V)} {ds : List D} {l : List Addr}, Fds K Hi H sp fs ds l → (∀ a ∈ l, H' a = H a) → Fds K Hi' H' sp fs ds l
  | _, _, _, _, .nil, _ => .nil
  | _, _, _, _, .sh r t, k => .sh (r.mono e) (Fds.to e t k)
  | _, _, _, _, .ow o n t, k => .ow (o.to e (k _ List.mem_cons_self)) n (Fds.to e t fun a ha => k a (List.mem_cons_of_mem _ ha))
theorem Fds.trk {K : Fg} {Hi H : Hp} : ∀ {sp : List (Str × Bool)} {fs : List (Str × V)} {ds : List D} {l : List Addr}, Fds K Hi H sp fs ds l → ∀ a ∈ l, ∃ o, H a = some o
  | _, _, _, _, .nil, _, ha => nomatch ha
  | _, _, _, _, .sh _ t, a, ha => Fds.trk t a ha
  | _, _, _, _, .ow o _ t, a, ha => by
    rcases List.mem_cons.mp ha with rfl | ha
    · exact o.trk
    · exact Fds.trk t a ha
structure InsAt (K : Fg) (t : Nat) (Hi H : Hp) (p dx : Addr) (fs : List (Str × V)) (ds : List D) (l : List Addr) : Prop where
  ins : H p = some (.ins (He.ga K (clsN t)) dx fs)
  own : H dx = some (.own p)
  fds : Fds K Hi H (spec t) fs ds l
  n1 : p ≠ dx
  n2 : p ∉ l
  n3 : dx ∉ l
  cls : Cls K (He.ga K (clsN t))
  noat : ∀ f ∈ (spec t).map (·.1), NoAttr K (He.ga K (clsN t)) f
def InsOk (K : Fg) (t : Nat) (d : D) (Hi H : Hp) (p : Addr) (fp : List Addr) : Prop := (t % 10 = 3 ∨ t % 10 = 4) ∧ ∃ (dx : Addr) (fs : List (Str × V)) (ds : List D) (l : List Addr), d = .tuple ds ∧ fp = p :: dx :: l ∧ InsAt K (t % 10) Hi H p dx fs ds l
theorem InsOk.loc {K : Fg} {t : Nat} {d : D} {Hi Hi' H H' : Hp} {p : Addr} {fp : List Addr} (h : InsOk K t d Hi H p fp) (e : Ext Hi Hi') (k : ∀ a ∈ fp, H' a = H a) : InsOk K t d Hi' H' p fp := by
  obtain ⟨ht, dx, fs, ps, l, hd, hf, I⟩ := h
  subst hf
  exact ⟨ht, dx, fs, ps, l, hd, rfl, by rw [k p (by simp)]; exact I.ins, by rw [k dx (by simp)]; exact I.own, I.fds.to e fun a ha => k a (by simp [ha]), I.n1, I.n2, I.n3, I.cls, I.noat⟩
theorem InsOk.trk {K : Fg} {t : Nat} {d : D} {Hi H : Hp} {p : Addr} {fp : List Addr} (h : InsOk K t d Hi H p fp) : ∀ a ∈ fp, ∃ o, H a = some o := by
  intro a ha
  obtain ⟨ht, dx, fs, ps, l, hd, hf, I⟩ := h
  subst hf
  simp only [List.mem_cons] at ha
  rcases ha with rfl | rfl | ha
  · exact ⟨_, I.ins⟩
  · exact ⟨_, I.own⟩
  · exact I.fds.trk a ha
theorem Own.swp {K : Fg} {Hi H H' : Hp} {p a : Addr} {d : D} {u u' : HO} {kvs : List (Key × V)} (h : Own K Hi H p d) (ha : Hi a = some u) (e : Dual kvs u u') (k : H' p = H p) : Own K (VL.swp Hi a u') H' p d := by
  cases h with
  | lst h r => exact .lst (by rw [k]; exact h) (Reps.swp ha e r)
  | dct h r => exact .dct (by rw [k]; exact h) (RepKV.swp ha e r)
theorem Fds.swp {K : Fg} {Hi H H' : Hp} {a : Addr} {u u' : HO} {kvs : List (Key × V)} (ha : Hi a = some u) (e : Dual kvs u u') : ∀ {sp : List (Str × Bool)} {fs : List (Str × V)} {ds : List D} {l : List Addr}, Fds K Hi H sp fs ds l → (∀ b ∈ l, H' b = H b) → Fds K (VL.swp Hi a u') H' sp fs ds l
  | _, _, _, _, .nil, _ => .nil
  | _, _, _, _, .sh r t, k => .sh (Rep.swp ha e r) (Fds.swp ha e t k)
  | _, _, _, _, .ow o n t, k => .ow (o.swp ha e (k _ List.mem_cons_self)) n (Fds.swp ha e t fun b hb => k b (List.mem_cons_of_mem _ hb))
theorem InsOk.swp {K : Fg} {t : Nat} {d : D} {Hi H H' : Hp} {p a : Addr} {fp : List Addr} {u u' : HO} {kvs : List (Key × V)} (h : InsOk K t d Hi H p fp) (ha : Hi a = some u) (e : Dual kvs u u') (k : ∀ b ∈ fp, H' b = H b) : InsOk K t d (VL.swp Hi a u') H' p fp := by
  obtain ⟨ht, dx, fs, ps, l, hd, hf, I⟩ := h
  subst hf
  exact ⟨ht, dx, fs, ps, l, hd, rfl, by rw [k p (by simp)]; exact I.ins, by rw [k dx (by simp)]; exact I.own, I.fds.swp ha e fun a ha => k a (by simp [ha]), I.n1, I.n2, I.n3, I.cls, I.noat⟩
inductive NewT (K : Fg) (Hi H : Hp) : V → D → List Addr → Prop
  | int (i : Int) : NewT K Hi H (.int i) (.int i) []
  | str (x : Str) : NewT K Hi H (.str x) (.str x) []
  | lst {p : Addr} {xs : List V} {ds : List D} : H p = some (.lst xs) → Reps K Hi xs ds → NewT K Hi H (.ref p) (.list ds) [p]
  | two {p : Addr} {v w : V} {dv dw : D} {l1 l2 : List Addr} : H p = some (.tup [v, w]) → NewT K Hi H v dv l1 → NewT K Hi H w dw l2 → p ∉ l1 → p ∉ l2 → (∀ a ∈ l1, a ∉ l2) → NewT K Hi H (.ref p) (.tuple [dv, dw]) (p :: (l1 ++ l2))
theorem NewT.loc {K : Fg} {Hi Hi' H H' : Hp} {v : V} {d : D} {l : List Addr} (h : NewT K Hi H v d l) (e : Ext Hi Hi') (k : ∀ a ∈ l, H' a = H a) : NewT K Hi' H' v d l := by
  induction h with
  | int i => exact .int i
  | str x => exact .str x
  | lst h r => exact .lst (by rw [k _ (by simp)]; exact h) (r.mono e)
  | two h _ _ n1 n2 n3 i1 i2 => exact .two (by rw [k _ (by simp)]; exact h) (i1 fun a ha => k a (by simp [ha])) (i2 fun a ha => k a (by simp [ha])) n1 n2 n3
theorem NewT.trk {K : Fg} {Hi H : Hp} {v : V} {d : D} {l : List Addr} (h : NewT K Hi H v d l) : ∀ a ∈ l, ∃ o, H a = some o := by
  induction h with
  | int i => exact fun a ha => nomatch ha
  | str x => exact fun a ha => nomatch ha
  | lst h r =>
    intro a ha
    rw [List.mem_singleton.mp ha]
    exact ⟨_, h⟩
  | two h _ _ n1 n2 n3 i1 i2 =>
    intro a ha
    simp only [List.mem_cons, List.mem_append] at ha
    rcases ha with rfl | ha | ha
    · exact ⟨_, h⟩
    · exact i1 a ha
    · exact i2 a ha
theorem NewT.swp {K : Fg} {Hi H H' : Hp} {v : V} {d : D} {l : List Addr} {a : Addr} {u u' : HO} {kvs : List (Key × V)} (h : NewT K Hi H v d l) (ha : Hi a = some u) (e : Dual kvs u u') (k : ∀ b ∈ l, H' b = H b) : NewT K (VL.swp Hi a u') H' v d l := by
  induction h with
  | int i => exact .int i
  | str x => exact .str x
  | lst h r => exact .lst (by rw [k _ (by simp)]; exact h) (Reps.swp ha e r)
  | two h _ _ n1 n2 n3 i1 i2 => exact .two (by rw [k _ (by simp)]; exact h) (i1 fun a ha => k a (by simp [ha])) (i2 fun a ha => k a (by simp [ha])) n1 n2 n3
theorem NewT.rep {K : Fg} {Hi H : Hp} {v : V} {d : D} {l : List Addr} (h : NewT K Hi H v d l) (e : Ext Hi H) : Rep K H v d := by
  induction h with
  | int i => exact .int i
  | str x => exact .str x
  | lst h r => exact .lst h (r.mono e)
  | two h _ _ n1 n2 n3 i1 i2 => exact .tup h (.cons i1 (.cons i2 .nil))
def StaOk (K : Fg) (t : Nat) (d : D) (Hi H : Hp) (p : Addr) (fp : List Addr) : Prop := t % 10 = 5 ∧ NewT K Hi H (.ref p) d fp
theorem StaOk.loc {K : Fg} {t : Nat} {d : D} {Hi Hi' H H' : Hp} {p : Addr} {fp : List Addr} (h : StaOk K t d Hi H p fp) (e : Ext Hi Hi') (k : ∀ a ∈ fp, H' a = H a) : StaOk K t d Hi' H' p fp := ⟨h.1, h.2.loc e k⟩
theorem StaOk.trk {K : Fg} {t : Nat} {d : D} {Hi H : Hp} {p : Addr} {fp : List Addr} (h : StaOk K t d Hi H p fp) : ∀ a ∈ fp, ∃ o, H a = some o := h.2.trk
theorem StaOk.swp {K : Fg} {t : Nat} {d : D} {Hi H H' : Hp} {p a : Addr} {fp : List Addr} {u u' : HO} {kvs : List (Key × V)} (h : StaOk K t d Hi H p fp) (ha : Hi a = some u) (e : Dual kvs u u') (k : ∀ b ∈ fp, H' b = H b) : StaOk K t d (VL.swp Hi a u') H' p fp := ⟨h.1, h.2.swp ha e k⟩
def OpS (K : Fg) : OpSem where
  ok := fun t d Hi H p fp => ScrOk K t d H p fp ∨ DeckOk t d H p fp ∨ KepOk K t d H p fp ∨ InsOk K t d Hi H p fp ∨ StaOk K t d Hi H p fp ∨ KxiOk K t d Hi H p fp
  loc := fun h e k => h.imp (fun h => h.loc k) fun h => h.imp (fun h => h.loc k) fun h => h.imp (fun h => h.loc k) fun h => h.imp (fun h => h.loc e k) fun h => h.imp (fun h => h.loc e k) fun h => h.loc e k
  trk := fun h => by
    rcases h with h | h | h | h | h | h
    · exact h.trk
    · exact h.trk
    · exact h.trk
    · exact h.trk
    · exact h.trk
    · exact h.trk
  swp := fun {t d Hi H p fp a u u' kvs} h ha e n => by
    have k : ∀ b ∈ fp, VL.swp H a u' b = H b := fun b hb => swp_ne (n b hb)
    rcases h with h | h | h | h | h | h
    · exact .inl (h.loc k)
    · exact .inr (.inl (h.loc k))
    · exact .inr (.inr (.inl (h.loc k)))
    · exact .inr (.inr (.inr (.inl (h.swp ha e k))))
    · exact .inr (.inr (.inr (.inr (.inl (h.swp ha e k)))))
    · exact .inr (.inr (.inr (.inr (.inr (h.swp ha e k)))))
  hnd := fun {t d Hi H p fp} => by
    have e : t % 10 % 10 = t % 10 := by omega
    unfold ScrOk DeckOk KepOk InsOk StaOk KxiOk
    rw [e]
theorem op_scr {K : Fg} {d : D} {Hi H : Hp} {p : Addr} {fp : List Addr} (h : (OpS K).ok 0 d Hi H p fp) : ScrOk K 0 d H p fp := by
  rcases h with h | h | h | h | h | h
  · exact h
  · have := h.1; omega
  · have := h.1; omega
  · have := h.1; omega
  · have := h.1; omega
  · have := h.1; omega
theorem op_deck {K : Fg} {t : Nat} {d : D} {Hi H : Hp} {p : Addr} {fp : List Addr} (ht : t % 10 = 1) (h : (OpS K).ok t d Hi H p fp) : DeckOk t d H p fp := by
  rcases h with h | h | h | h | h | h
  · have := h.1; omega
  · exact h
  · have := h.1; omega
  · have := h.1; omega
  · have := h.1; omega
  · have := h.1; omega
theorem op_sta {K : Fg} {t : Nat} {d : D} {Hi H : Hp} {p : Addr} {fp : List Addr} (ht : t % 10 = 5) (h : (OpS K).ok t d Hi H p fp) : StaOk K t d Hi H p fp := by
  rcases h with h | h | h | h | h | h
  · have := h.1; omega
  · have := h.1; omega
  · have := h.1; omega
  · have := h.1; omega
  · exact h
  · have := h.1; omega
theorem ScrOk.sq {K : Fg} {t : Nat} {d : D} {H : Hp} {p : Addr} {fp : List Addr} (h : ScrOk K t d H p fp) : ∃ ns : List Int, d = .list (ns.map .int) ∧ SqL K H p (ns.map V.int) := by
  obtain ⟨_, ns, hd, h⟩ := h
  refine ⟨ns, hd, ?_⟩
  rcases h with ⟨_, h⟩ | ⟨_, h⟩
  · exact .inr h
  · exact .inl h
theorem ScrOk.of {K : Fg} {H : Hp} {p : Addr} {ns : List Int} (h : SqL K H p (ns.map V.int)) : ∃ fp, ScrOk K 0 (.list (ns.map .int)) H p fp := by
  rcases h with h | h
  · exact ⟨[p], rfl, ns, rfl, .inr ⟨rfl, h⟩⟩
  · exact ⟨[], rfl, ns, rfl, .inl ⟨rfl, h⟩⟩
section
variable {X : Cx} {G : Gb} {W : WX} {a b c e o i : Expr} {es : List Expr} {ta tb tc te to ti : TE} {wa wb wc we wo wi : WE} {pos pos' p p2 p3 : Pos} {t : TA} {w : WA}
theorem sim_lenS (hO : G.Op = OpS G.K) (i : Nat) : SimE G W (tCB (rLenA G.K) (tCons (tVar i) tNil)) (wLenS i) := by
  intro C Hi σ H Γ Q Qd Xd c hw hQ hX
  unfold wLenS at hw
  split at hw
  · rename_i l e
    obtain ⟨fp, c0⟩ := id c
    obtain ⟨x, hx, p, rfl, ok, _⟩ := c0.sl i _ e
    rw [hO] at ok
    obtain ⟨ns, hd, s⟩ := ScrOk.sq (op_scr ok)
    refine ⟨_, hx, .inl ⟨_, l.length, rfl, .inl ⟨_, s, ?_⟩, hQ _ _ H Hi Γ (Ext.refl _) (out_int c _) hw⟩⟩
    injection hd with hd
    rw [hd]; simp
  · exact hw.elim
theorem de_lenS (hK : X.K = G.K) (hO : G.Op = OpS G.K) (i : Nat) {x : Str} (hm : X.mg "len" = none) (hN : X.N[i]? = some x := by rfl) (hv : Vis X.env.scope x := by first | exact Or.inl rfl | exact Or.inr (Or.inl rfl) | exact Or.inr (Or.inr rfl)) (hd : (x == ("__debug__" : Str)) = false := by decide)
    (hcd : (x == ("__classdict__" : Str)) = false := by decide) (hg : Gl X "len" := by rfl) (he : starEach [.Name x p2] X.env = (false, eval (.Name x p2) X.env) :: starEach [] X.env := by rfl) (hpl : (backTo pos (starEach [] X.env)).any (·.1) = false := by rfl) :
    DE X G W (.Call (.Name "len" p) [.Name x p2] [] pos) (tCB (rLenA G.K) (tCons (tVar i) tNil)) (wLenS i) :=
  ⟨pe_callB (by rw [← hK]; exact call_lenA) hg hm (by decide +kernel) (pa_cons (pe_var hN hv hd hcd) pa_nil he) (by decide) (by decide) he hpl, sim_lenS hO i⟩
theorem atI_map {α β : Type} (f : α → β) (l : List α) (i : Int) : atI (l.map f) i = (atI l i).map f := by
  unfold atI
  rw [List.length_map]
  cases ixN l.length i with
  | none => rfl
  | some j => simp
theorem sim_ixS (hO : G.Op = OpS G.K) (i : Nat) (h : SimE G W ta wa) : SimE G W (tOp (rIxA G.K) (tVar i) ta) (wIxS i wa) := by
  intro C Hi σ H Γ Q Qd Xd c hw hQ hX
  obtain ⟨ho, hw⟩ := hw
  have hp : ∃ p, σ[i]? = some (some (.ref p)) := by
    obtain ⟨fpc, c⟩ := c
    unfold isOwn at ho
    split at ho
    · rename_i d e
      obtain ⟨x, hx, p, _, e1, _⟩ := c.sl i _ e
      exact ⟨p, by rw [hx, e1]⟩
    · rename_i d e
      obtain ⟨x, hx, p, _, e1, _⟩ := c.sl i _ e
      exact ⟨p, by rw [hx, e1]⟩
    · rename_i t d e
      obtain ⟨x, hx, p, e1, _⟩ := c.sl i _ e
      exact ⟨p, by rw [hx, e1]⟩
    · exact ho.elim
  obtain ⟨p, hp⟩ := hp
  refine ⟨_, hp, h C Hi σ H Γ _ _ Xd c hw (fun v1 r1 H1 Hi1 Γ1 e1 o1 q1 => ?_) hX⟩
  obtain ⟨Hi2, e2, c2, h2⟩ := o1.hold
  obtain ⟨d, b1, q2⟩ := h2.read c2 q1
  obtain ⟨n, rfl, q3⟩ := isI_inv q2
  split at q3
  · rename_i l e
    split at q3
    · rename_i d ed
      obtain ⟨fp, c0⟩ := id c2
      obtain ⟨x, hx, p', rfl, ok, _⟩ := c0.sl i _ e
      rw [hp] at hx; cases hx
      rw [hO] at ok
      obtain ⟨ns, hd, s⟩ := ScrOk.sq (op_scr ok)
      injection hd with hd
      subst hd
      rw [atI_map] at ed
      cases eq : atI ns n with
      | none => rw [eq] at ed; cases ed
      | some z =>
        rw [eq] at ed
        cases ed
        exact .inl (.inl ⟨p, ns.map V.int, n, .int z, rfl, b1.int, s, by rw [atI_map, eq]; rfl, hQ _ (.sh (.int z)) H1 Hi2 Γ1 (e1.trans e2) (out_int c2 _) q3⟩)
    · exact q3.elim
  · exact q3.elim
theorem de_ixS (hK : X.K = G.K) (hO : G.Op = OpS G.K) (hu : X.A.units + 65 < cLine) (i : Nat) {x : Str} (hb : DE X G W b tb wb) (hN : X.N[i]? = some x := by rfl) (hv : Vis X.env.scope x := by first | exact Or.inl rfl | exact Or.inr (Or.inl rfl) | exact Or.inr (Or.inr rfl)) (hd : (x == ("__debug__" : Str)) = false := by decide)
    (hcd : (x == ("__classdict__" : Str)) = false := by decide) (hs : PlainIx b := by intro _ _; rfl) : DE X G W (.Subscript (.Name x p) b pos) (tOp (rIxA G.K) (tVar i) tb) (wIxS i wb) :=
  ⟨pe_ix (by rw [← hK]; exact ix_any (by omega)) (pe_var hN hv hd hcd) hb.pe hs, sim_ixS hO i hb.sim⟩
end
def fsLaw : FS := fun io ds Q _ => ∃ ns : List Int, ns.length ≤ 63 ∧ io = some (.op 0 (.list (ns.map .int))) ∧ ds = [] ∧ ∀ io', SameIo io io' → Q (.sh (.bool true)) io'
theorem law_sp {K : Fg} {ca : Str → Addr} {H : Hp} {a : Addr} {ns : List Int} (hl : ns.length ≤ 63) (h : SqL K H a (ns.map V.int)) : lift ⟨K, OpS K, ca⟩ fsLaw [.ref a] H (fun v _ => v = .bl true) fun _ _ _ => False := by
  obtain ⟨fp, ok⟩ := ScrOk.of h
  refine ⟨some (.op 0 (.list (ns.map .int))), [], fun _ => none, fun r _ => r = .sh (.bool true), fun _ _ => False, [.ref a], [], fp, rfl, ⟨by decide, a, rfl, .inl ok⟩, .nil, fun _ _ z => (nomatch z), fun _ _ => rfl, ⟨ns, hl, rfl, rfl, fun _ _ => rfl⟩, fun v r H' Hi' io' fp' L ra q => ?_, fun x c d H' Hi' io' fp' L hx q => q⟩
  subst q
  have ra : Rep K Hi' v (.bool true) := ra
  cases ra
  rfl
theorem fsLaw_len : FnL fsLaw 1 := by
  rintro io ds Q X ⟨ns, _, rfl, rfl, _⟩
  rfl
end VL

set_option Elab.async false
set_option linter.all false
namespace VL
open PySem L2
@[simp ↓] theorem ev_wC (d : D) (Γ : Ev) (Q : R → Ev → Prop) (X : XW) : wC d Γ Q X = (Q (.sh d) Γ) := rfl
@[simp ↓] theorem ev_wOp (o : Op2) (wa wb : WE) (Γ : Ev) (Q : R → Ev → Prop) (X : XW) : wOp o wa wb Γ Q X = (wa Γ (fun ra Γ1 => wb Γ1 (fun rb Γ2 => rdW ra Γ2 fun a => rdW rb Γ2 fun b => o a b fun r => Q r Γ2) X) X) := rfl
@[simp ↓] theorem ev_wUn (o : Op1) (wa : WE) (Γ : Ev) (Q : R → Ev → Prop) (X : XW) : wUn o wa Γ Q X = (wa Γ (fun ra Γ1 => rdW ra Γ1 fun a => o a fun r => Q r Γ1) X) := rfl
@[simp ↓] theorem ev_wT (w : WE) (Γ : Ev) (Q : Bool → Ev → Prop) (X : XW) : wT w Γ Q X = (w Γ (fun r Γ1 => rdW r Γ1 fun d => isB d fun b => Q b Γ1) X) := rfl
@[simp ↓] theorem ev_wAnd (a b : WT) (Γ : Ev) (Q : Bool → Ev → Prop) (X : XW) : wAnd a b Γ Q X = (a Γ (fun c Γ1 => if c = true then b Γ1 Q X else Q false Γ1) X) := rfl
@[simp ↓] theorem ev_wOr (a b : WT) (Γ : Ev) (Q : Bool → Ev → Prop) (X : XW) : wOr a b Γ Q X = (a Γ (fun c Γ1 => if c = true then Q true Γ1 else b Γ1 Q X) X) := rfl
@[simp ↓] theorem ev_wNot (a : WT) (Γ : Ev) (Q : Bool → Ev → Prop) (X : XW) : wNot a Γ Q X = (a Γ (fun c Γ1 => Q (!c) Γ1) X) := rfl
@[simp ↓] theorem ev_wAndV (wa wb : WE) (Γ : Ev) (Q : R → Ev → Prop) (X : XW) : wAndV wa wb Γ Q X = (wa Γ (fun r Γ1 => rdW r Γ1 fun d => isB d fun b => if b = true then wb Γ1 Q X else Q (.sh (.bool false)) Γ1) X) := rfl
@[simp ↓] theorem ev_wOrV (wa wb : WE) (Γ : Ev) (Q : R → Ev → Prop) (X : XW) : wOrV wa wb Γ Q X = (wa Γ (fun r Γ1 => rdW r Γ1 fun d => isB d fun b => if b = true then Q (.sh (.bool true)) Γ1 else wb Γ1 Q X) X) := rfl
@[simp ↓] theorem ev_wNotV (wa : WE) (Γ : Ev) (Q : R → Ev → Prop) (X : XW) : wNotV wa Γ Q X = (wa Γ (fun r Γ1 => rdW r Γ1 fun d => isB d fun b => Q (.sh (.bool (!b))) Γ1) X) := rfl
@[simp ↓] theorem ev_wIf (c : WT) (wa wb : WE) (Γ : Ev) (Q : R → Ev → Prop) (X : XW) : wIf c wa wb Γ Q X = (c Γ (fun b Γ1 => if b = true then wa Γ1 Q X else wb Γ1 Q X) X) := rfl
@[simp ↓] theorem ev_wChain (o o' : Op2) (wa wb wc : WE) (Γ : Ev) (Q : R → Ev → Prop) (X : XW) : wChain o o' wa wb wc Γ Q X =
    (wa Γ (fun ra Γ1 => wb Γ1 (fun rb Γ2 => rdW ra Γ2 fun a => rdW rb Γ2 fun b => o a b fun r => rdW r Γ2 fun d => isB d fun z =>
      if z = true then wc Γ2 (fun rc Γ3 => rdW rb Γ3 fun b' => rdW rc Γ3 fun c' => o' b' c' fun r => Q r Γ3) X else Q (.sh (.bool false)) Γ2) X) X) := rfl
@[simp ↓] theorem ev_wNil (Γ : Ev) (Q : List R → Ev → Prop) (X : XW) : wNil Γ Q X = (Q [] Γ) := rfl
@[simp ↓] theorem ev_wCons (wa : WE) (wr : WA) (Γ : Ev) (Q : List R → Ev → Prop) (X : XW) : wCons wa wr Γ Q X = (wa Γ (fun r Γ1 => wr Γ1 (fun rs Γ2 => Q (r :: rs) Γ2) X) X) := rfl
@[simp ↓] theorem ev_wTup (wa : WA) (Γ : Ev) (Q : R → Ev → Prop) (X : XW) : wTup wa Γ Q X = (wa Γ (fun rs Γ1 => frAll rs Γ1 fun ds Γ2 => ds.length ≤ 1000 ∧ Q (.sh (.tuple ds)) Γ2) X) := rfl
@[simp ↓] theorem ev_wLst (wa : WA) (Γ : Ev) (Q : R → Ev → Prop) (X : XW) : wLst wa Γ Q X = (wa Γ (fun rs Γ1 => frAll rs Γ1 fun ds Γ2 => ds.length ≤ 1000 ∧ Q (.ow (.list ds)) Γ2) X) := rfl
@[simp ↓] theorem ev_wCB (o : OpN) (wa : WA) (Γ : Ev) (Q : R → Ev → Prop) (X : XW) : wCB o wa Γ Q X = (wa Γ (fun rs Γ1 => rdAll rs Γ1 fun ds => o ds fun r => Q r Γ1) X) := rfl
@[simp ↓] theorem ev_wNext (Γ : Ev) (D : WD) (X : XW) : wNext Γ D X = (D.nx Γ) := rfl
@[simp ↓] theorem ev_wSeq (a b : WS) (Γ : Ev) (D : WD) (X : XW) : wSeq a b Γ D X = (a Γ ⟨fun Γ1 => b Γ1 D X, D.rt, D.bk, D.ct⟩ X) := rfl
@[simp ↓] theorem ev_wBrk (Γ : Ev) (D : WD) (X : XW) : wBrk Γ D X = (D.bk Γ) := rfl
@[simp ↓] theorem ev_wCnt (Γ : Ev) (D : WD) (X : XW) : wCnt Γ D X = (D.ct Γ) := rfl
@[simp ↓] theorem ev_wDrop (w : WE) (Γ : Ev) (D : WD) (X : XW) : wDrop w Γ D X = (w Γ (fun _ Γ1 => D.nx Γ1) X) := rfl
@[simp ↓] theorem ev_wRet (w : WE) (Γ : Ev) (D : WD) (X : XW) : wRet w Γ D X = (w Γ (fun r Γ1 => D.rt r Γ1) X) := rfl
@[simp ↓] theorem ev_wRetN (Γ : Ev) (D : WD) (X : XW) : wRetN Γ D X = (D.rt (.sh .none) Γ) := rfl
@[simp ↓] theorem ev_wIfS (c : WT) (a b : WS) (Γ : Ev) (D : WD) (X : XW) : wIfS c a b Γ D X = (c Γ (fun z Γ1 => if z = true then a Γ1 D X else b Γ1 D X) X) := rfl
@[simp ↓] theorem ev_wSet (i : Nat) (w : WE) (Γ : Ev) (D : WD) (X : XW) : wSet i w Γ D X = (w Γ (fun r Γ1 => setR i r Γ1 D.nx) X) := rfl
@[simp ↓] theorem ev_wAsg (w : WE) (g : WG) (Γ : Ev) (D : WD) (X : XW) : wAsg w g Γ D X = (w Γ (fun r Γ1 => frW r Γ1 fun d Γ2 => g d Γ2 D.nx) X) := rfl
@[simp ↓] theorem ev_wFor (wi : WI) (g : WG) (b : WS) (Γ : Ev) (D : WD) (X : XW) : wFor wi g b Γ D X = (wi Γ (fun ds Γ1 => loopW g b D X ds Γ1) X) := rfl
@[simp ↓] theorem ev_wiL (w : WE) (Γ : Ev) (Q : List PyData → Ev → Prop) (X : XW) : wiL w Γ Q X = (w Γ (fun r Γ1 => frW r Γ1 fun d Γ2 => isL d fun ds => Q ds Γ2) X) := rfl
@[simp ↓] theorem ev_wiR1 (wa : WA) (Γ : Ev) (Q : List PyData → Ev → Prop) (X : XW) : wiR1 wa Γ Q X =
    (wa Γ (fun rs Γ1 => rdAll rs Γ1 fun ds => match ds with
      | [.int j] => -(2 ^ 62) ≤ j ∧ j < 2 ^ 62 ∧ Q (rangeD 0 j.toNat) Γ1
      | _ => False) X) := rfl
@[simp ↓] theorem ev_wiR2 (wa : WA) (Γ : Ev) (Q : List PyData → Ev → Prop) (X : XW) : wiR2 wa Γ Q X =
    (wa Γ (fun rs Γ1 => rdAll rs Γ1 fun ds => match ds with
      | [.int i, .int j] => (-(2 ^ 62) ≤ i ∧ i < 2 ^ 62 ∧ -(2 ^ 62) ≤ j ∧ j < 2 ^ 62) ∧ Q (rangeD i (j - i).toNat) Γ1
      | _ => False) X) := rfl
@[simp ↓] theorem ev_wiA (f : List D → List D) (wa : WA) (Γ : Ev) (Q : List PyData → Ev → Prop) (X : XW) : wiA f wa Γ Q X =
    (wa Γ (fun rs Γ1 => frAll rs Γ1 fun ds Γ2 => match ds with
      | [.list l] => Q (f l) Γ2
      | _ => False) X) := rfl
@[simp ↓] theorem ev_wiZ (wa : WA) (Γ : Ev) (Q : List PyData → Ev → Prop) (X : XW) : wiZ wa Γ Q X =
    (wa Γ (fun rs Γ1 => frAll rs Γ1 fun ds Γ2 => match ds with
      | [.list l, .list m] => Q (List.zipWith (fun x y => .tuple [x, y]) l m) Γ2
      | _ => False) X) := rfl
@[simp ↓] theorem ev_wiS (w : WE) (Γ : Ev) (Q : List PyData → Ev → Prop) (X : XW) : wiS w Γ Q X = (w Γ (fun r Γ1 => rdW r Γ1 fun d => isS d fun z => Q (signsD z) Γ1) X) := rfl
@[simp ↓] theorem ev_wNoP (Γ : Ev) (Q : Option Int → Ev → Prop) (X : XW) : wNoP Γ Q X = (Q none Γ) := rfl
@[simp ↓] theorem ev_wPart (w : WE) (Γ : Ev) (Q : Option Int → Ev → Prop) (X : XW) : wPart w Γ Q X = (w Γ (fun r Γ1 => rdW r Γ1 fun d => isI d fun i => Q (some i) Γ1) X) := rfl
@[simp ↓] theorem ev_wSlL (wa : WE) (wl wh : WO) (Γ : Ev) (Q : R → Ev → Prop) (X : XW) : wSlL wa wl wh Γ Q X = (wa Γ (fun r Γ1 => wl Γ1 (fun lo Γ2 => wh Γ2 (fun hi Γ3 => rdW r Γ3 fun d => isL d fun ds => Q (.ow (.list (cutD ds lo hi))) Γ3) X) X) X) := rfl
@[simp ↓] theorem ev_wIsi (T : String) (w : WE) (Γ : Ev) (Q : R → Ev → Prop) (X : XW) : wIsi T w Γ Q X = (w Γ (fun r Γ1 => rdW r Γ1 fun d => Q (.sh (.bool (isT (tyN d) T))) Γ1) X) := rfl
@[simp ↓] theorem ev_wIsi2 (T U : String) (w : WE) (Γ : Ev) (Q : R → Ev → Prop) (X : XW) : wIsi2 T U w Γ Q X = (w Γ (fun r Γ1 => rdW r Γ1 fun d => Q (.sh (.bool (isT (tyN d) T || isT (tyN d) U))) Γ1) X) := rfl
@[simp ↓] theorem ev_wMut (i : Nat) (f : OpM) (wa : WA) (Γ : Ev) (Q : R → Ev → Prop) (X : XW) : wMut i f wa Γ Q X = (owW i Γ fun d _ => isL d fun _ => wa Γ (fun rs Γ1 => frAll rs Γ1 fun ds Γ2 => owW i Γ2 fun d f' => isL d fun l => f l ds fun l' r => Q (.sh r) (f' (.list l'))) X) := rfl
@[simp ↓] theorem ev_wMut0 (i : Nat) (f : OpM) (Γ : Ev) (Q : R → Ev → Prop) (X : XW) : wMut0 i f Γ Q X = (owW i Γ fun d f' => isL d fun l => f l [] fun l' r => Q (.sh r) (f' (.list l'))) := rfl
@[simp ↓] theorem ev_wDict0 (Γ : Ev) (Q : R → Ev → Prop) (X : XW) : wDict0 Γ Q X = (Q (.ow (.dict [])) Γ) := rfl
@[simp ↓] theorem ev_wDGet1 (wd wk : WE) (Γ : Ev) (Q : R → Ev → Prop) (X : XW) : wDGet1 wd wk Γ Q X = (wd Γ (fun r Γ1 => rdW r Γ1 fun d => isD d fun _ => wk Γ1 (fun rk Γ2 => rdW r Γ2 fun d => isD d fun ps => rdW rk Γ2 fun key => isK key (Q (.sh ((dget ps key).getD .none)) Γ2)) X) X) := rfl
@[simp ↓] theorem ev_wDGet2 (wd wk wx : WE) (Γ : Ev) (Q : R → Ev → Prop) (X : XW) : wDGet2 wd wk wx Γ Q X =
    (wd Γ (fun r Γ1 => rdW r Γ1 fun d => isD d fun _ => wk Γ1 (fun rk Γ2 => wx Γ2 (fun rx Γ3 => frW rx Γ3 fun dx Γ4 =>
      rdW r Γ4 fun d => isD d fun ps => rdW rk Γ4 fun key => isK key (Q (.sh ((dget ps key).getD dx)) Γ4)) X) X) X) := rfl
@[simp ↓] theorem ev_wDPut (i : Nat) (wk wv : WE) (Γ : Ev) (D : WD) (X : XW) : wDPut i wk wv Γ D X = (wv Γ (fun rv Γ1 => owW i Γ1 fun _ _ => wk Γ1 (fun rk Γ2 => frW rv Γ2 fun dv Γ3 => rdW rk Γ3 fun key => isK key (owW i Γ3 fun d f => isD d fun ps => ps.length < sizeLine ∧ D.nx (f (.dict (dput ps key dv))))) X) X) := rfl
@[simp ↓] theorem ev_wLPut (i : Nat) (wk wv : WE) (Γ : Ev) (D : WD) (X : XW) : wLPut i wk wv Γ D X =
    (wv Γ (fun rv Γ1 => owW i Γ1 fun _ _ => wk Γ1 (fun rk Γ2 => frW rv Γ2 fun dv Γ3 => rdW rk Γ3 fun key => isI key fun n => owW i Γ3 fun d f => isL d fun l =>
      match ixN l.length n with
      | some j => D.nx (f (.list (l.set j dv)))
      | none => False) X) X) := rfl
@[simp ↓] theorem ev_wExt (i : Nat) (w : WE) (Γ : Ev) (Q : R → Ev → Prop) (X : XW) : wExt i w Γ Q X = (owW i Γ fun d _ => isL d fun _ => w Γ (fun r Γ1 => frW r Γ1 fun d Γ2 => isL d fun ys => owW i Γ2 fun d f => isL d fun l => l.length + ys.length ≤ sizeLine ∧ Q (.sh .none) (f (.list (l ++ ys)))) X) := rfl
@[simp ↓] theorem ev_wsNil (Γ : Ev) (Q : List Sl → Ev → Prop) (X : XW) : wsNil Γ Q X = (Q [] Γ) := rfl
@[simp ↓] theorem ev_wsCons (w : WE) (ws : WSl) (Γ : Ev) (Q : List Sl → Ev → Prop) (X : XW) : wsCons w ws Γ Q X = (w Γ (fun r Γ1 => slW r Γ1 fun s Γ2 => ws Γ2 (fun ss Γ3 => Q (s :: ss) Γ3) X) X) := rfl
@[simp ↓] theorem ev_wPar (is : List Nat) (ws : WSl) (Γ : Ev) (D : WD) (X : XW) : wPar is ws Γ D X = (ws Γ (fun ss Γ1 => ss.length = is.length ∧ (∀ i ∈ is, i < Γ1.length) ∧ D.nx ((is.zip ss).foldl (fun Γ p => Γ.set p.1 p.2) Γ1)) X) := rfl
@[simp ↓] theorem ev_wYes (Γ : Ev) (Q : Bool → Ev → Prop) (X : XW) : wYes Γ Q X = (Q true Γ) := rfl
@[simp ↓] theorem ev_wCall (fs : FS) (dv : List D) (wa : WA) (Γ : Ev) (Q : R → Ev → Prop) (X : XW) : wCall fs dv wa Γ Q X = (wa Γ (fun rs Γ1 => frAll rs Γ1 fun ds Γ2 => fs none (ds ++ dv) (fun r _ => Q r Γ2) fun x _ => X x Γ2) X) := rfl
@[simp ↓] theorem ev_wRevL (wa : WE) (Γ : Ev) (Q : R → Ev → Prop) (X : XW) : wRevL wa Γ Q X = (wa Γ (fun r Γ1 => rdW r Γ1 fun d => isL d fun ds => Q (.ow (.list ds.reverse)) Γ1) X) := rfl
@[simp ↓] theorem ev_wCallB (fs : FS) (dv : List D) (wa : WA) (Γ : Ev) (Q : R → Ev → Prop) (X : XW) : wCallB fs dv wa Γ Q X = (wa Γ (fun rs Γ1 => rdAll rs Γ1 fun ds => fs none (ds ++ dv) (fun r _ => flatR r ∧ Q r Γ1) fun x _ => x.idx = none ∧ X x Γ1) X) := rfl
@[simp ↓] theorem ev_rd_sh (d : D) (Γ : Ev) (k : D → Prop) : rdW (.sh d) Γ k = k d := rfl
@[simp ↓] theorem ev_rd_ow (d : D) (Γ : Ev) (k : D → Prop) : rdW (.ow d) Γ k = k d := rfl
def getS : Ev → Nat → (Sl → Prop) → Prop
  | [], _, _ => False
  | s :: _, 0, k => k s
  | _ :: Γ, i + 1, k => getS Γ i k
theorem getS_at : ∀ (Γ : Ev) (i : Nat) (k : Sl → Prop), getS Γ i k = (match Γ[i]? with
  | some s => k s
  | none => False)
  | [], i, k => by simp [getS]
  | s :: _, 0, k => rfl
  | _ :: Γ, i + 1, k => by rw [getS, getS_at Γ i k]; simp
@[simp ↓] theorem getS_0 (s : Sl) (Γ : Ev) (k : Sl → Prop) : getS (s :: Γ) 0 k = k s := rfl
@[simp ↓] theorem getS_s (s : Sl) (Γ : Ev) (i : Nat) (k : Sl → Prop) : getS (s :: Γ) (i + 1) k = getS Γ i k := rfl
def slVar : Sl → Nat → Ev → (R → Ev → Prop) → Prop
  | .sh d, _, Γ, Q => Q (.sh d) Γ
  | .ow _, i, Γ, Q => Q (.vr i) Γ
  | .io _, i, Γ, Q => Q (.vr i) Γ
  | .op _ _, i, Γ, Q => Q (.vr i) Γ
  | .no, _, _, _ => False
  | .two _ _, _, _, _ => False
@[simp ↓] theorem slVar_sh (d : D) (i : Nat) (Γ : Ev) (Q : R → Ev → Prop) : slVar (.sh d) i Γ Q = Q (.sh d) Γ := rfl
@[simp ↓] theorem slVar_ow (d : D) (i : Nat) (Γ : Ev) (Q : R → Ev → Prop) : slVar (.ow d) i Γ Q = Q (.vr i) Γ := rfl
@[simp ↓] theorem slVar_io (d : D) (i : Nat) (Γ : Ev) (Q : R → Ev → Prop) : slVar (.io d) i Γ Q = Q (.vr i) Γ := rfl
@[simp ↓] theorem slVar_op (t : Nat) (d : D) (i : Nat) (Γ : Ev) (Q : R → Ev → Prop) : slVar (.op t d) i Γ Q = Q (.vr i) Γ := rfl
@[simp ↓] theorem ev_wVar (i : Nat) (Γ : Ev) (Q : R → Ev → Prop) (X : XW) : wVar i Γ Q X = getS Γ i fun s => slVar s i Γ Q := by
  rw [getS_at]
  unfold wVar
  cases Γ[i]? with
  | none => rfl
  | some s => cases s <;> rfl
def slRd : Sl → (D → Prop) → Prop
  | .sh d, k => k d
  | .ow d, k => k d
  | .io d, k => k d
  | _, _ => False
@[simp ↓] theorem slRd_sh (d : D) (k : D → Prop) : slRd (.sh d) k = k d := rfl
@[simp ↓] theorem slRd_ow (d : D) (k : D → Prop) : slRd (.ow d) k = k d := rfl
@[simp ↓] theorem slRd_io (d : D) (k : D → Prop) : slRd (.io d) k = k d := rfl
@[simp ↓] theorem ev_rd_vr (i : Nat) (Γ : Ev) (k : D → Prop) : rdW (.vr i) Γ k = getS Γ i fun s => slRd s k := by
  rw [getS_at]
  unfold rdW
  dsimp only
  cases Γ[i]? with
  | none => rfl
  | some s => cases s <;> rfl
def slFr : Sl → Nat → Ev → (D → Ev → Prop) → Prop
  | .sh d, _, Γ, k => k d Γ
  | .ow d, i, Γ, k => k d (Γ.set i (.sh d))
  | _, _, _, _ => False
@[simp ↓] theorem slFr_sh (d : D) (i : Nat) (Γ : Ev) (k : D → Ev → Prop) : slFr (.sh d) i Γ k = k d Γ := rfl
@[simp ↓] theorem slFr_ow (d : D) (i : Nat) (Γ : Ev) (k : D → Ev → Prop) : slFr (.ow d) i Γ k = k d (Γ.set i (.sh d)) := rfl
def slOw : Sl → Nat → Ev → (D → (D → Ev) → Prop) → Prop
  | .ow d, i, Γ, k => k d fun d' => Γ.set i (.ow d')
  | .io d, i, Γ, k => k d fun d' => Γ.set i (.io d')
  | _, _, _, _ => False
@[simp ↓] theorem slOw_ow (d : D) (i : Nat) (Γ : Ev) (k : D → (D → Ev) → Prop) : slOw (.ow d) i Γ k = k d fun d' => Γ.set i (.ow d') := rfl
@[simp ↓] theorem slOw_io (d : D) (i : Nat) (Γ : Ev) (k : D → (D → Ev) → Prop) : slOw (.io d) i Γ k = k d fun d' => Γ.set i (.io d') := rfl
@[simp ↓] theorem ev_owW (i : Nat) (Γ : Ev) (k : D → (D → Ev) → Prop) : owW i Γ k = getS Γ i fun s => slOw s i Γ k := by
  rw [getS_at]
  unfold owW
  cases Γ[i]? with
  | none => rfl
  | some s => cases s <;> rfl
def slSh : Sl → (D → Prop) → Prop
  | .sh d, k => k d
  | _, _ => False
@[simp ↓] theorem slSh_sh (d : D) (k : D → Prop) : slSh (.sh d) k = k d := rfl
@[simp ↓] theorem ev_wAug (i : Nat) (o : Op2) (w : WE) (Γ : Ev) (D : WD) (X : XW) : wAug i o w Γ D X = getS Γ i fun s => slSh s fun a => w Γ (fun r Γ1 => rdW r Γ1 fun b => o a b fun r2 => setR i r2 Γ1 D.nx) X := by
  rw [getS_at]
  unfold wAug
  cases Γ[i]? with
  | none => rfl
  | some s => cases s <;> rfl
def slIo : Sl → Nat → Ev → (Sl → (Option Sl → Ev) → Prop) → Prop
  | .ow d, i, Γ, k => k (.io d) fun s => match s with
    | some (.io d') => Γ.set i (.ow d')
    | _ => Γ
  | .io d, i, Γ, k => k (.io d) fun s => match s with
    | some (.io d') => Γ.set i (.io d')
    | _ => Γ
  | .op t d, i, Γ, k => k (.op (hand t) d) fun s => match s with
    | some (.op _ d') => Γ.set i (.op t d')
    | _ => Γ
  | _, _, _, _ => False
@[simp ↓] theorem slIo_ow (d : D) (i : Nat) (Γ : Ev) (k : Sl → (Option Sl → Ev) → Prop) : slIo (.ow d) i Γ k = k (.io d) fun s => match s with
    | some (.io d') => Γ.set i (.ow d')
    | _ => Γ := rfl
@[simp ↓] theorem slIo_io (d : D) (i : Nat) (Γ : Ev) (k : Sl → (Option Sl → Ev) → Prop) : slIo (.io d) i Γ k = k (.io d) fun s => match s with
    | some (.io d') => Γ.set i (.io d')
    | _ => Γ := rfl
@[simp ↓] theorem slIo_op (t : Nat) (d : D) (i : Nat) (Γ : Ev) (k : Sl → (Option Sl → Ev) → Prop) : slIo (.op t d) i Γ k = k (.op (hand t) d) fun s => match s with
    | some (.op _ d') => Γ.set i (.op t d')
    | _ => Γ := rfl
@[simp ↓] theorem ev_ioW (i : Nat) (Γ : Ev) (k : Sl → (Option Sl → Ev) → Prop) : ioW i Γ k = getS Γ i fun s => slIo s i Γ k := by
  rw [getS_at]
  unfold ioW
  cases Γ[i]? with
  | none => rfl
  | some s => cases s <;> rfl
def slIs : Sl → Prop
  | .ow _ => True
  | .io _ => True
  | .op _ _ => True
  | _ => False
@[simp] theorem slIs_ow (d : D) : slIs (.ow d) = True := rfl
@[simp] theorem slIs_io (d : D) : slIs (.io d) = True := rfl
@[simp] theorem slIs_op (t : Nat) (d : D) : slIs (.op t d) = True := rfl
@[simp ↓] theorem ev_isOwn (i : Nat) (Γ : Ev) : isOwn Γ i = getS Γ i slIs := by
  rw [getS_at]
  unfold isOwn
  cases Γ[i]? with
  | none => rfl
  | some s => cases s <;> rfl
@[simp ↓] theorem ev_wCallIo (fs : FS) (i : Nat) (dv : List D) (wa : WA) (Γ : Ev) (Q : R → Ev → Prop) (X : XW) : wCallIo fs i dv wa Γ Q X = (isOwn Γ i ∧ wa Γ (fun rs Γ1 => frAll rs Γ1 fun ds Γ2 => ioW i Γ2 fun s f => fs (some s) (ds ++ dv) (fun r io => SameIo (some s) io ∧ Q r (f io)) fun x io => SameIo (some s) io ∧ X x (f io)) X) := rfl
def slScr : Sl → (List D → Prop) → Prop
  | .op 0 (.list l), k => k l
  | _, _ => False
@[simp ↓] theorem slScr_op (l : List D) (k : List D → Prop) : slScr (.op 0 (.list l)) k = k l := rfl
@[simp ↓] theorem ev_wLenS (i : Nat) (Γ : Ev) (Q : R → Ev → Prop) (X : XW) : wLenS i Γ Q X = getS Γ i fun s => slScr s fun l => Q (.sh (.int (l.length : Int))) Γ := by
  rw [getS_at]
  unfold wLenS
  cases Γ[i]? with
  | none => rfl
  | some s =>
    cases s with
    | op t d => cases t <;> cases d <;> rfl
    | _ => rfl
@[simp ↓] theorem ev_wIxS (i : Nat) (wa : WE) (Γ : Ev) (Q : R → Ev → Prop) (X : XW) : wIxS i wa Γ Q X = (isOwn Γ i ∧ wa Γ (fun r Γ1 => rdW r Γ1 fun d => isI d fun n => getS Γ1 i fun s => slScr s fun l => match atI l n with
    | some d => Q (.sh d) Γ1
    | none => False) X) := by
  unfold wIxS
  congr 1
  congr 1
  funext r Γ1
  congr 1
  funext d
  congr 1
  funext n
  rw [getS_at]
  cases Γ1[i]? with
  | none => rfl
  | some s =>
    cases s with
    | op t d => cases t <;> cases d <;> rfl
    | _ => rfl
@[simp ↓] theorem ev_fr_sh (d : D) (Γ : Ev) (k : D → Ev → Prop) : frW (.sh d) Γ k = k d Γ := rfl
@[simp ↓] theorem ev_fr_ow (d : D) (Γ : Ev) (k : D → Ev → Prop) : frW (.ow d) Γ k = k d Γ := rfl
@[simp ↓] theorem ev_fr_vr (i : Nat) (Γ : Ev) (k : D → Ev → Prop) : frW (.vr i) Γ k = getS Γ i fun s => slFr s i Γ k := by
  rw [getS_at]
  unfold frW
  dsimp only
  cases Γ[i]? with
  | none => rfl
  | some s => cases s <;> rfl
@[simp ↓] theorem ev_frAll_nil (Γ : Ev) (k : List D → Ev → Prop) : frAll [] Γ k = k [] Γ := rfl
@[simp ↓] theorem ev_frAll_cons (r : R) (rs : List R) (Γ : Ev) (k : List D → Ev → Prop) : frAll (r :: rs) Γ k = frW r Γ fun d Γ1 => frAll rs Γ1 fun ds Γ2 => k (d :: ds) Γ2 := rfl
@[simp ↓] theorem ev_rdAll_nil (Γ : Ev) (k : List D → Prop) : rdAll [] Γ k = k [] := rfl
@[simp ↓] theorem ev_rdAll_cons (r : R) (rs : List R) (Γ : Ev) (k : List D → Prop) : rdAll (r :: rs) Γ k = rdW r Γ fun d => rdAll rs Γ fun ds => k (d :: ds) := rfl
@[simp ↓] theorem ev_setR_sh (i : Nat) (d : D) (Γ : Ev) (k : Ev → Prop) : setR i (.sh d) Γ k = k (Γ.set i (.sh d)) := rfl
@[simp ↓] theorem ev_setR_ow (i : Nat) (d : D) (Γ : Ev) (k : Ev → Prop) : setR i (.ow d) Γ k = k (Γ.set i (.ow d)) := rfl
@[simp ↓] theorem ev_setR_vr (i j : Nat) (Γ : Ev) (k : Ev → Prop) : setR i (.vr j) Γ k = frW (.vr j) Γ fun d Γ1 => k (Γ1.set i (.sh d)) := rfl
@[simp ↓] theorem ev_isI (i : Int) (k : Int → Prop) : isI (.int i) k = k i := rfl
@[simp ↓] theorem ev_isB (i : Bool) (k : Bool → Prop) : isB (.bool i) k = k i := rfl
@[simp ↓] theorem ev_isS (i : Str) (k : Str → Prop) : isS (.str i) k = k i := rfl
@[simp ↓] theorem ev_isL (i : List D) (k : List D → Prop) : isL (.list i) k = k i := rfl
@[simp ↓] theorem ev_isD (i : List (D × D)) (k : List (D × D) → Prop) : isD (.dict i) k = k i := rfl
@[simp ↓] theorem ev_isN (k : Prop) : isN .none k = k := rfl
@[simp ↓] theorem ev_isKi (i : Int) (k : Prop) : isK (.int i) k = k := rfl
@[simp ↓] theorem ev_isKs (i : Str) (k : Prop) : isK (.str i) k = k := rfl
@[simp ↓] theorem ev_oII (P : Int → Int → Prop) (g : Int → Int → Int) (i j : Int) (k : R → Prop) : oII P g (.int i) (.int j) k = (P i j ∧ k (.sh (.int (g i j)))) := rfl
@[simp ↓] theorem ev_oIB (g : Int → Int → Bool) (i j : Int) (k : R → Prop) : oIB g (.int i) (.int j) k = k (.sh (.bool (g i j))) := rfl
@[simp ↓] theorem ev_o1 (o : Op1) (d : D) (k : R → Prop) : o1 o [d] k = o d k := rfl
@[simp ↓] theorem ev_o2 (o : Op2) (d e : D) (k : R → Prop) : o2 o [d, e] k = o d e k := rfl
@[simp ↓] theorem ev_len_l (l : List D) (k : R → Prop) : oLen (.list l) k = k (.sh (.int l.length)) := rfl
@[simp ↓] theorem ev_len_t (l : List D) (k : R → Prop) : oLen (.tuple l) k = k (.sh (.int l.length)) := rfl
@[simp ↓] theorem ev_len_s (z : Str) (k : R → Prop) : oLen (.str z) k = (z.length ≤ sizeLine ∧ k (.sh (.int z.length))) := rfl
@[simp ↓] theorem ev_len_d (l : List (D × D)) (k : R → Prop) : oLen (.dict l) k = k (.sh (.int l.length)) := rfl
@[simp ↓] theorem ev_isNd (a : D) (k : R → Prop) : oIsN a .none k = k (.sh (.bool (isNone a))) := rfl
@[simp ↓] theorem ev_notNd (a : D) (k : R → Prop) : oNotN a .none k = k (.sh (.bool (!isNone a))) := rfl
@[simp ↓] theorem ev_isNone_n : isNone .none = true := rfl
@[simp ↓] theorem ev_isNone_i (i : Int) : isNone (.int i) = false := rfl
@[simp ↓] theorem ev_isNone_t (i : List D) : isNone (.tuple i) = false := rfl
@[simp ↓] theorem ev_isNone_l (i : List D) : isNone (.list i) = false := rfl
@[simp ↓] theorem ev_isNone_s (i : Str) : isNone (.str i) = false := rfl
@[simp ↓] theorem ev_wgName (i : Nat) (d : D) (Γ : Ev) (k : Ev → Prop) : wgName i d Γ k = k (Γ.set i (.sh d)) := rfl
@[simp ↓] theorem ev_wgTup (n : Nat) (b : WGs) (ds : List D) (Γ : Ev) (k : Ev → Prop) : wgTup n b (.tuple ds) Γ k = (ds.length = n ∧ b ds Γ k) := rfl
@[simp ↓] theorem ev_wgNil (Γ : Ev) (k : Ev → Prop) : wgNil [] Γ k = k Γ := rfl
@[simp ↓] theorem ev_wgCons (a : WG) (b : WGs) (d : D) (ds : List D) (Γ : Ev) (k : Ev → Prop) : wgCons a b (d :: ds) Γ k = a d Γ fun Γ1 => b ds Γ1 k := rfl
@[simp ↓] theorem ev_loop_nil (g : WG) (b : WS) (D : WD) (X : XW) (Γ : Ev) : loopW g b D X [] Γ = D.nx Γ := rfl
theorem ev_loop_cons (g : WG) (b : WS) (D : WD) (X : XW) (d : PyData) (ds : List PyData) (Γ : Ev) : loopW g b D X (d :: ds) Γ = g d Γ fun Γ1 => b Γ1 ⟨loopW g b D X ds, D.rt, D.nx, loopW g b D X ds⟩ X := rfl
@[simp ↓] theorem ev_oEq (a b : D) (k : R → Prop) : oEq a b k = (SeqAt.shaped a = true ∧ SeqAt.shaped b = true ∧ k (.sh (.bool (PyData.eqv a b)))) := rfl
@[simp ↓] theorem ev_oNe (a b : D) (k : R → Prop) : oNe a b k = (SeqAt.shaped a = true ∧ SeqAt.shaped b = true ∧ k (.sh (.bool (!PyData.eqv a b)))) := rfl
@[simp ↓] theorem ev_oMul (i j : Int) (k : R → Prop) : oMul (.int i) (.int j) k = (CMulW i j ∧ k (.sh (.int (i * j)))) := rfl
@[simp ↓] theorem ev_oAdd_i (i j : Int) (k : R → Prop) : oAdd (.int i) (.int j) k = k (.sh (.int (i + j))) := rfl
@[simp ↓] theorem ev_oAdd_s (i j : Str) (k : R → Prop) : oAdd (.str i) (.str j) k = (i.length + j.length ≤ sizeLine ∧ k (.sh (.str (i ++ j)))) := rfl
@[simp ↓] theorem ev_oAdd_l (i j : List D) (k : R → Prop) : oAdd (.list i) (.list j) k = (i.length + j.length ≤ sizeLine ∧ k (.ow (.list (i ++ j)))) := rfl
@[simp ↓] theorem ev_oInt_i (i : Int) (k : R → Prop) : oInt (.int i) k = k (.sh (.int i)) := rfl
@[simp ↓] theorem ev_oInt_b (i : Bool) (k : R → Prop) : oInt (.bool i) k = k (.sh (.int (if i then 1 else 0))) := rfl
@[simp ↓] theorem ev_oMax (i j : Int) (k : R → Prop) : oMax (.int i) (.int j) k = k (.sh (.int (if j > i then j else i))) := rfl
@[simp ↓] theorem ev_oMin (i j : Int) (k : R → Prop) : oMin (.int i) (.int j) k = k (.sh (.int (if j < i then j else i))) := rfl
theorem ev_ixt (l : List D) (i : Int) (k : R → Prop) : oIx (.tuple l) (.int i) k = (match atI l i with
  | some d => k (.sh d)
  | none => False) := rfl
theorem ev_ixl (l : List D) (i : Int) (k : R → Prop) : oIx (.list l) (.int i) k = (match atI l i with
  | some d => k (.sh d)
  | none => False) := rfl
theorem ev_ixd (l : List (D × D)) (i : D) (k : R → Prop) : oIx (.dict l) i k = isK i (match dget l i with
  | some d => k (.sh d)
  | none => False) := rfl
@[simp ↓] theorem ix_t0 (a : D) (l : List D) (k : R → Prop) : oIx (.tuple (a :: l)) (.int 0) k = k (.sh a) := by
  rw [ev_ixt]
  have : atI (a :: l) 0 = some a := by unfold atI; simp [ixN]
  rw [this]
@[simp ↓] theorem ix_t1 (a b : D) (l : List D) (k : R → Prop) : oIx (.tuple (a :: b :: l)) (.int 1) k = k (.sh b) := by
  rw [ev_ixt]
  have : atI (a :: b :: l) 1 = some b := by
    unfold atI
    simp only [ixN, List.length_cons]
    rw [if_pos (by decide), if_pos (by omega)]
    rfl
  rw [this]
@[simp ↓] theorem ix_t2 (a b c : D) (l : List D) (k : R → Prop) : oIx (.tuple (a :: b :: c :: l)) (.int 2) k = k (.sh c) := by
  rw [ev_ixt]
  have : atI (a :: b :: c :: l) 2 = some c := by
    unfold atI
    simp only [ixN, List.length_cons]
    rw [if_pos (by decide), if_pos (by omega)]
    rfl
  rw [this]
@[simp ↓] theorem ix_l0 (a : D) (l : List D) (k : R → Prop) : oIx (.list (a :: l)) (.int 0) k = k (.sh a) := ix_t0 a l k
@[simp ↓] theorem ix_l1 (a b : D) (l : List D) (k : R → Prop) : oIx (.list (a :: b :: l)) (.int 1) k = k (.sh b) := ix_t1 a b l k
@[simp ↓] theorem ix_l2 (a b c : D) (l : List D) (k : R → Prop) : oIx (.list (a :: b :: c :: l)) (.int 2) k = k (.sh c) := ix_t2 a b c l k
@[simp ↓] theorem isT_self (T : String) : isT T T = true := by simp [isT]
@[simp ↓] theorem tyN_none : tyN .none = "NoneType" := rfl
@[simp ↓] theorem tyN_bool (b : Bool) : tyN (.bool b) = "bool" := rfl
@[simp ↓] theorem tyN_int (b : Int) : tyN (.int b) = "int" := rfl
@[simp ↓] theorem tyN_str (b : Str) : tyN (.str b) = "str" := rfl
@[simp ↓] theorem tyN_list (b : List D) : tyN (.list b) = "list" := rfl
@[simp ↓] theorem tyN_tuple (b : List D) : tyN (.tuple b) = "tuple" := rfl
@[simp ↓] theorem tyN_dict (b : List (D × D)) : tyN (.dict b) = "dict" := rfl
@[simp ↓] theorem ev_append (l : List D) (x : D) (k : List D → D → Prop) : fAppend l [x] k = (l.length < sizeLine ∧ k (l ++ [x]) .none) := rfl
@[simp ↓] theorem ev_in_str (neg : Bool) (a : D) (z : Str) (k : R → Prop) : oIn neg a (.str z) k = isS a fun y => ∃ c, y = ⟨#[c]⟩ ∧ k (.sh (.bool (if neg then !decide (c ∈ z.cps.toList) else decide (c ∈ z.cps.toList)))) := rfl
@[simp ↓] theorem ev_in_dict (neg : Bool) (a : D) (z : List (D × D)) (k : R → Prop) : oIn neg a (.dict z) k = isK a (k (.sh (.bool (if neg then !(dget z a).isSome else (dget z a).isSome)))) := rfl
@[simp ↓] theorem ev_in_tup (neg : Bool) (a : D) (ds : List D) (k : R → Prop) : oIn neg a (.tuple ds) k = (flatD a = true ∧ ds.all flatD = true ∧ k (.sh (.bool (if neg then !(ds.any fun z => PyData.eqv z a) else ds.any fun z => PyData.eqv z a)))) := rfl
theorem ev_wLc (vs : List Nat) (wi : WI) (g : WG) (t : WT) (w : WE) (Γ : Ev) (Q : R → Ev → Prop) (X : XW) : wLc vs wi g t w Γ Q X = wi Γ (fun ds Γ1 => okW Γ1 vs ∧ lcW vs g t w (fun acc Γ2 => Q (.ow (.list acc)) (restE Γ1 Γ2 vs)) ds [] (wipeE Γ1 vs)) X := rfl
theorem ev_wDc (vs : List Nat) (wi : WI) (g : WG) (t : WT) (wk wv : WE) (Γ : Ev) (Q : R → Ev → Prop) (X : XW) : wDc vs wi g t wk wv Γ Q X = wi Γ (fun ds Γ1 => okW Γ1 vs ∧ dcW vs g t wk wv (fun acc Γ2 => Q (.ow (.dict acc)) (restE Γ1 Γ2 vs)) ds [] (wipeE Γ1 vs)) X := rfl
@[simp ↓] theorem slW_sh (d : D) (Γ : Ev) (k : Sl → Ev → Prop) : slW (.sh d) Γ k = k (.sh d) Γ := rfl
@[simp ↓] theorem slW_ow (d : D) (Γ : Ev) (k : Sl → Ev → Prop) : slW (.ow d) Γ k = k (.ow d) Γ := rfl
@[simp ↓] theorem slW_vr (i : Nat) (Γ : Ev) (k : Sl → Ev → Prop) : slW (.vr i) Γ k = frW (.vr i) Γ fun d Γ1 => k (.sh d) Γ1 := rfl
@[simp] theorem hand_0 : hand 0 = 0 := rfl
@[simp] theorem hand_1 : hand 1 = 1 := rfl
@[simp] theorem hand_2 : hand 2 = 2 := rfl
@[simp] theorem hand_3 : hand 3 = 3 := rfl
@[simp] theorem hand_4 : hand 4 = 4 := rfl
@[simp] theorem hand_11 : hand 11 = 1 := rfl
@[simp] theorem hand_12 : hand 12 = 2 := rfl
@[simp] theorem hand_13 : hand 13 = 3 := rfl
@[simp] theorem hand_14 : hand 14 = 4 := rfl
@[simp] theorem same_none : SameIo none none = True := rfl
@[simp] theorem same_io (a b : D) : SameIo (some (.io a)) (some (.io b)) = True := rfl
@[simp] theorem same_op (t u : Nat) (a b : D) : SameIo (some (.op t a)) (some (.op u b)) = (t = u) := rfl
@[simp] theorem ioOf_none (Γ : Ev) : ioOf none Γ = none := rfl
@[simp] theorem ioOf_io (d : D) (t : Sl) (Γ : Ev) : ioOf (some (.io d)) (t :: Γ) = some t := rfl
@[simp] theorem ioOf_op (k : Nat) (d : D) (t : Sl) (Γ : Ev) : ioOf (some (.op k d)) (t :: Γ) = some t := rfl
@[simp] theorem ioOf_two (a b x y : Sl) (Γ : Ev) : ioOf (some (.two a b)) (x :: y :: Γ) = some (.two x y) := rfl
@[simp] theorem same1_io (a b : D) : SameOne (.io a) (.io b) = True := rfl
@[simp] theorem same1_op (t u : Nat) (a b : D) : SameOne (.op t a) (.op u b) = (t = u) := rfl
@[simp] theorem same_two (a b c d : Sl) : SameIo (some (.two a b)) (some (.two c d)) = (SameOne a c ∧ SameOne b d) := rfl
@[simp ↓] theorem retW_sh (d : D) (Γ : Ev) (k : R → Ev → Prop) : retW (.sh d) Γ k = k (.sh d) Γ := rfl
@[simp ↓] theorem retW_ow (d : D) (Γ : Ev) (k : R → Ev → Prop) : retW (.ow d) Γ k = k (.ow d) Γ := rfl
def slRet : Sl → Nat → Ev → (R → Ev → Prop) → Prop
  | .sh d, _, Γ, k => k (.sh d) Γ
  | .ow d, i, Γ, k => k (.ow d) (Γ.set i .no)
  | .op t d, i, Γ, k => 10 ≤ t ∧ k (.op t d) (Γ.set i .no)
  | _, _, _, _ => False
@[simp ↓] theorem slRet_op (t : Nat) (d : D) (i : Nat) (Γ : Ev) (k : R → Ev → Prop) : slRet (.op t d) i Γ k = (10 ≤ t ∧ k (.op t d) (Γ.set i .no)) := rfl
@[simp ↓] theorem retW_op (t : Nat) (d : D) (Γ : Ev) (k : R → Ev → Prop) : retW (.op t d) Γ k = (10 ≤ t ∧ k (.op t d) Γ) := rfl
@[simp ↓] theorem slW_op (t : Nat) (d : D) (Γ : Ev) (k : Sl → Ev → Prop) : slW (.op t d) Γ k = (10 ≤ t ∧ k (.op t d) Γ) := rfl
@[simp ↓] theorem ev_setR_op (i t : Nat) (d : D) (Γ : Ev) (k : Ev → Prop) : setR i (.op t d) Γ k = (10 ≤ t ∧ k (Γ.set i (.op t d))) := rfl
@[simp ↓] theorem slRet_sh (d : D) (i : Nat) (Γ : Ev) (k : R → Ev → Prop) : slRet (.sh d) i Γ k = k (.sh d) Γ := rfl
@[simp ↓] theorem slRet_ow (d : D) (i : Nat) (Γ : Ev) (k : R → Ev → Prop) : slRet (.ow d) i Γ k = k (.ow d) (Γ.set i .no) := rfl
@[simp ↓] theorem retW_vr (i : Nat) (Γ : Ev) (k : R → Ev → Prop) : retW (.vr i) Γ k = getS Γ i fun s => slRet s i Γ k := by
  rw [getS_at]
  unfold retW
  dsimp only
  cases Γ[i]? with
  | none => rfl
  | some s => cases s <;> rfl
theorem pick {l : List D} {r : Int} {k : R → Prop} (h0 : 0 ≤ r) (h : r < (l.length : Int)) (q : ∀ d, d ∈ l → k (.sh d)) : oIx (.list l) (.int r) k := by
  rw [ev_ixl]
  have : atI l r = l[r.toNat]? := by
    unfold atI ixN
    rw [if_pos h0, if_pos h]
    rfl
  have hi : r.toNat < l.length := by omega
  rw [this, List.getElem?_eq_getElem hi]
  exact q _ (List.getElem_mem hi)
end VL

set_option Elab.async false
set_option linter.all false
set_option maxRecDepth 100000
namespace VL
open PySem L2

section
variable {X : Cx} {G : Gb}
def oTuple : Op1 := fun d k => match d with
  | .list l => k (.sh (.tuple l))
  | .tuple l => k (.sh (.tuple l))
  | _ => False
@[simp ↓] theorem ev_oTuple_l (l : List D) (k : R → Prop) : oTuple (.list l) k = k (.sh (.tuple l)) := rfl
@[simp ↓] theorem ev_oTuple_t (l : List D) (k : R → Prop) : oTuple (.tuple l) k = k (.sh (.tuple l)) := rfl
def oDivm : Op2 := fun a b k => isI a fun i => isI b fun j => CDivW i j ∧ k (.sh (.tuple [.int (i / j), .int (i % j)]))
@[simp ↓] theorem ev_oDivm (i j : Int) (k : R → Prop) : oDivm (.int i) (.int j) k = (CDivW i j ∧ k (.sh (.tuple [.int (i / j), .int (i % j)]))) := rfl
@[simp ↓] theorem ev_oMul_l (l : List D) (j : Int) (k : R → Prop) : oMul (.list l) (.int j) k = ((-(2 ^ 63) ≤ j ∧ j < 2 ^ 63) ∧ l.length * j.toNat ≤ sizeLine ∧ k (.ow (.list (List.replicate j.toNat l).flatten))) := rfl
end
end VL

set_option Elab.async false
set_option linter.all false
set_option maxRecDepth 100000
namespace VL
open PySem L2

def fltP : D → Prop
  | .int _ => True
  | .str _ => True
  | .bool _ => True
  | .none => True
  | _ => False
section
variable {K : Fg} {H H' : Hp}
theorem Rep.flat {v : V} {d : D} (h : Rep K H v d) (f : fltP d) : Rep K H' v d := by
  cases h with
  | non => exact .non
  | bl b => exact .bl b
  | int i => exact .int i
  | str z => exact .str z
  | lst _ _ => exact f.elim
  | tup _ _ => exact f.elim
  | dct _ _ => exact f.elim
theorem Reps.flat : ∀ {vs : List V} {ds : List D}, Reps K H vs ds → (∀ e ∈ ds, fltP e) → Reps K H' vs ds
  | _, _, .nil, _ => .nil
  | _, _, .cons h r, f => .cons (h.flat (f _ List.mem_cons_self)) (Reps.flat r fun e he => f e (List.mem_cons_of_mem _ he))
theorem RepKV.flat : ∀ {kvs : List (Key × V)} {ps : List (D × D)}, RepKV K H kvs ps → (∀ p ∈ ps, fltP p.2) → RepKV K H' kvs ps
  | _, _, .nil, _ => .nil
  | _, _, .cons h r, f => .cons (h.flat (f _ List.mem_cons_self)) (RepKV.flat r fun e he => f e (List.mem_cons_of_mem _ he))
theorem RepKV.at_key : ∀ {kvs : List (Key × V)} {ps : List (D × D)} {i : Nat} {k : Key} {v : V} {d : D}, RepKV K H kvs ps → kvs[i]? = some (k, v) → (ps.map (·.1))[i]? = some d → d = kD k
  | _, _, _, _, _, _, .nil, h, _ => by simp at h
  | _, _, 0, _, _, _, .cons _ _, h, e => by
    simp at h e
    rw [← e, ← h.1]
  | _, _, i + 1, _, _, _, .cons _ r, h, e => RepKV.at_key (i := i) r (by simpa using h) (by simpa using e)
theorem rep_key (k : Key) : Rep K H (kV k) (kD k) := by
  cases k with
  | inl i => exact .int i
  | inr x => exact .str x
end
def tLk (t : TE) : TE := fun σ H Q => tLockE t σ H Q ∨ t σ H Q
theorem pe_lk {X : Cx} {e : Expr} {t : TE} (h : PE X e t) : PE X e (tLk t) :=
  ⟨fun pins s σ H Q I q => q.elim ((pe_lock h).run pins s σ H Q I) (h.run pins s σ H Q I)⟩
def ΓK (Γ : Ev) (i : Nat) (ps : List (D × D)) : Ev := (Γ.map fun _ => Sl.no).set i (.sh (.dict ps))
def wLcK (i : Nat) (vs : List Nat) (g : WG) (t : WT) (w : WE) : WE := fun Γ Q X => match Γ[i]? with
  | some (.sh (.dict ps)) => (∀ p ∈ ps, fltP p.2) ∧ okW (ΓK Γ i ps) vs ∧ lcW vs g t w (fun acc _ => (∀ e ∈ acc, fltP e) ∧ Q (.ow (.list acc)) Γ) (ps.map (·.1)) [] (wipeE (ΓK Γ i ps) vs)
  | _ => False
section
variable {G : Gb} {W : WX} {g : TG} {wg : WG} {tt : TT} {wt : WT} {te : TE} {we : WE} {vs : List Nat} {C : Cf} {Hi H H' HL : Hp} {σ : St} {Γ : Ev}
theorem outK (c : Rel G C Hi σ H Γ) (e : Ext H H') {p : Addr} {xs : List V} {acc : List D} (hp : H p = none) (hl : H' p = some (.lst xs)) (r : ∀ Hi', Reps G.K Hi' xs acc) : Out G C Hi σ H' Γ (.ref p) (.ow (.list acc)) := by
  let H3 : Hp := fun b => if b = p then none else H' b
  have h3 : H3 p = none := if_pos rfl
  have e3 : Ext H H3 := fun b o h => by
    have z : b ≠ p := fun z => by rw [z, hp] at h; cases h
    rw [show H3 b = H' b from if_neg z]
    exact e b o h
  have c3 : Rel G C Hi σ H3 Γ := c.grow e3 (Ext.refl _) (c.imm.trans e3) fun _ _ z => .inl z
  have c4 := c3.alloc h3 (o := .lst xs) (d := .list acc) (.lst upd_same (r Hi))
  have eq : upd H3 p (.lst xs) = H' := by
    funext b
    by_cases z : b = p
    · subst z; rw [upd_same, hl]
    · rw [upd_ne z]; exact if_neg z
  rw [eq] at c4
  exact ⟨c.len, c4⟩
end
section
variable {X : Cx} {G : Gb} {W : WX} {tg e : Expr} {ifs : List Expr} {scope : Scope} {own : List (Str × Nat)} {pos p : Pos} {g : TG} {wg : WG} {tt : TT} {wt : WT} {te : TE} {we : WE}
end
end VL

set_option Elab.async false
set_option linter.all false
set_option maxRecDepth 100000
namespace VL
open PySem L2

section
variable {K : Fg} {Hi H : Hp} {a : Addr} {u u' : HO} {kvs : List (Key × V)}
end
section
variable {G : Gb} {C : Cf} {Hi H : Hp} {σ : St} {Γ : Ev} {a : Addr} {u u' : HO} {kvs : List (Key × V)}
def swpC (C : Cf) (a : Addr) (o : HO) : Cf := ⟨swp C.H0 a o, swp C.I0 a o, C.io, fun b hb => by
  have := C.iot b hb
  by_cases z : b = a
  · subst z
    cases e : C.H0 b with
    | none => exact absurd e this
    | some v => rw [swp_at e]; simp
  · rw [swp_ne z]; exact this, C.pa⟩
theorem Core.swp {fp : Nat → List Addr} (c : Core G C Hi σ H Γ fp) (ha : Hi a = some u) (d : Dual kvs u u') : Core G (swpC C a u') (swp Hi a u') σ (swp H a u') Γ fp := by
  have hHa := c.imm _ _ ha
  have nfp : ∀ i, i < Γ.length → ∀ b ∈ fp i, b ≠ a := fun i hi b hb z => by
    have := c.av i b hi hb
    rw [z, ha] at this; cases this
  refine ⟨fun b o h n => ?_, fun b h => ?_, fun b o h => ?_, fun b o h => ?_, fun b o h => ?_, c.len, fun i s hs => ?_, c.dj, fun i b hi hb => ?_⟩
  · rcases swp_some h with ⟨rfl, rfl, _⟩ | ⟨z, h⟩
    · exact swp_at hHa
    · rw [swp_ne z]; exact c.frame b o h n
  · by_cases z : b = a
    · subst z; rw [swp_at hHa]; simp
    · rw [swp_ne z]
      refine c.live b fun e => h ?_
      show VL.swp C.H0 a u' b = none
      rw [swp_ne z]; exact e
  · rcases swp_some h with ⟨rfl, rfl, _⟩ | ⟨z, h⟩
    · exact swp_at hHa
    · rw [swp_ne z]; exact c.imm b o h
  · rcases swp_some h with ⟨rfl, rfl, _⟩ | ⟨z, h⟩
    · exact swp_at ha
    · rw [swp_ne z]; exact c.base b o h
  · rcases swp_some h with ⟨rfl, rfl, _⟩ | ⟨z, h⟩
    · rcases c.ov _ _ ha with q | q
      · exact .inl (swp_at q)
      · exact .inr (swp_none q)
    · rcases c.ov b o h with q | q
      · exact .inl (by show VL.swp C.I0 a u' b = _; rw [swp_ne z]; exact q)
      · exact .inr (by show VL.swp C.H0 a u' b = _; rw [swp_ne z]; exact q)
  · obtain ⟨x, hx, ok⟩ := c.sl i s hs
    have hi := (List.getElem?_eq_some_iff.mp hs).1
    have nf := nfp i hi
    refine ⟨x, hx, ?_⟩
    cases s with
    | no => exact ok
    | two _ _ => exact ok.elim
    | sh d' => obtain ⟨h0, v, h1, h2⟩ := ok; exact ⟨h0, v, h1, Rep.swp ha d h2⟩
    | ow d' =>
      obtain ⟨p, h0, h1, h2, h3⟩ := ok
      have zp : p ≠ a := nf p (by rw [h0]; simp)
      refine ⟨p, h0, h1, ?_, by show VL.swp C.H0 a u' p = _; rw [swp_ne zp]; exact h3⟩
      cases h2 with
      | lst g r => exact .lst (by rw [swp_ne zp]; exact g) (Reps.swp ha d r)
      | dct g r => exact .dct (by rw [swp_ne zp]; exact g) (RepKV.swp ha d r)
    | io d' =>
      obtain ⟨p, h0, h1, h2, h3⟩ := ok
      have zp : p ≠ a := nf p (by rw [h0]; simp)
      refine ⟨p, h0, h1, ?_, h3⟩
      cases h2 with
      | lst g r => exact .lst (by rw [swp_ne zp]; exact g) (Reps.swp ha d r)
      | dct g r => exact .dct (by rw [swp_ne zp]; exact g) (RepKV.swp ha d r)
    | op t d' =>
      obtain ⟨p, h1, h2, h3, h4⟩ := ok
      refine ⟨p, h1, G.Op.swp h2 ha d nf, fun b hb => ?_, h4⟩
      rcases h3 b hb with q | q
      · exact .inl (by show VL.swp C.H0 a u' b = _; rw [swp_ne (nf b hb)]; exact q)
      · exact .inr q
  · rw [swp_ne (nfp i hi b hb)]
    exact c.av i b hi hb
theorem Rel.swp (c : Rel G C Hi σ H Γ) (ha : Hi a = some u) (d : Dual kvs u u') : Rel G (swpC C a u') (swp Hi a u') σ (swp H a u') Γ :=
  let ⟨_, c⟩ := c
  ⟨_, c.swp ha d⟩
theorem swp2_none {H0 : Hp} {a b : Addr} {o o2 : HO} : VL.swp (VL.swp H0 a o) a o2 b = none ↔ H0 b = none := by
  by_cases z : b = a
  · subst z
    cases e : H0 b with
    | none => rw [swp_none (swp_none e)]
    | some v => rw [swp_at (swp_at e)]; simp
  · rw [swp_ne z, swp_ne z]
theorem swp2_some {H0 : Hp} {a b : Addr} {o o2 v : HO} (h : H0 b = some v) (e : b = a → v = o2) : VL.swp (VL.swp H0 a o) a o2 b = some v := by
  by_cases z : b = a
  · have ev := e z
    subst z
    rw [ev]
    exact swp_at (swp_at h)
  · rw [swp_ne z, swp_ne z]; exact h
theorem Core.unswp {fp : Nat → List Addr} (c : Core G (swpC C a u') Hi σ H Γ fp) (ha : Hi a = some u') (d : Dual kvs u' u) (f1 : ∀ o, C.H0 a = some o → ¬ C.io a → o = u) (f2 : ∀ o, C.I0 a = some o → o = u) (f3 : C.I0 a = some u ∨ C.H0 a = none) :
    Core G C (VL.swp Hi a u) σ (VL.swp H a u) Γ fp := by
  have c2 := c.swp ha d
  have hia : VL.swp Hi a u a = some u := swp_at ha
  refine ⟨fun b o h n => c2.frame b o (swp2_some h fun z => f1 o (z ▸ h) (z ▸ n)) n, fun b h => c2.live b fun z => h (swp2_none.mp z), c2.imm, fun b o h => c2.base b o (swp2_some h fun z => f2 o (z ▸ h)), fun b o h => ?_, c2.len, fun i s hs => ?_, c2.dj, c2.av⟩
  · by_cases z : b = a
    · subst z
      rw [hia] at h
      cases h
      exact f3
    · rcases c2.ov b o h with q | q
      · have q : VL.swp (VL.swp C.I0 a u') a u b = some o := q
        rw [swp_ne z, swp_ne z] at q
        exact .inl q
      · exact .inr (swp2_none.mp q)
  · obtain ⟨x, hx, ok⟩ := c2.sl i s hs
    refine ⟨x, hx, ?_⟩
    cases s with
    | no => exact ok
    | two _ _ => exact ok.elim
    | sh d' => exact ok
    | ow d' => obtain ⟨p, h0, h1, h2, h3⟩ := ok; exact ⟨p, h0, h1, h2, swp2_none.mp h3⟩
    | io d' => exact ok
    | op t d' =>
      obtain ⟨p, h1, h2, h3, h4⟩ := ok
      exact ⟨p, h1, h2, fun b hb => (h3 b hb).imp (fun q => swp2_none.mp q) id, h4⟩
end
section
variable {G : Gb} {W : WX} {g : TG} {wg : WG} {tb : TS} {wb : WS}
theorem Out.unswp {C : Cf} {Hi H : Hp} {σ : St} {Γ : Ev} {a : Addr} {u u' : HO} {kvs : List (Key × V)} {v : V} {r : R} (o : Out G (swpC C a u') Hi σ H Γ v r) (ha : Hi a = some u') (d : Dual kvs u' u) (f1 : ∀ o, C.H0 a = some o → ¬ C.io a → o = u) (f2 : ∀ o, C.I0 a = some o → o = u) (f3 : C.I0 a = some u ∨ C.H0 a = none) :
    Out G C (VL.swp Hi a u) σ (VL.swp H a u) Γ v r := by
  cases r with
  | sh d' => obtain ⟨⟨fp, c⟩, rp⟩ := o; exact ⟨⟨fp, c.unswp ha d f1 f2 f3⟩, Rep.swp ha d rp⟩
  | ow d' => obtain ⟨hl, fp, c⟩ := o; exact ⟨hl, fp, c.unswp ha d f1 f2 f3⟩
  | vr i => obtain ⟨⟨fp, c⟩, h⟩ := o; exact ⟨⟨fp, c.unswp ha d f1 f2 f3⟩, h⟩
  | op t d' => obtain ⟨hl, fp, c⟩ := o; exact ⟨hl, fp, c.unswp ha d f1 f2 f3⟩
end
section
variable {X : Cx} {G : Gb} {W : WX} {tg : Expr} {b1 : List Stmt} {g : TG} {wg : WG} {ts : TS} {ws : WS} {p pos : Pos}
end
end VL

set_option Elab.async false
set_option linter.all false
set_option maxRecDepth 100000
namespace VL
open PySem L2

section
variable {G : Gb} {W : WX} {g : TG} {wg : WG} {tt : TT} {wt : WT} {te : TE} {we : WE} {vs : List Nat}
end
section
variable {X : Cx} {G : Gb} {W : WX} {tg e : Expr} {ifs : List Expr} {scope : Scope} {own : List (Str × Nat)} {pos p : Pos} {g : TG} {wg : WG} {tt : TT} {wt : WT} {te : TE} {we : WE}
end
end VL

set_option Elab.async false
set_option linter.all false
set_option maxRecDepth 100000
namespace VL
open PySem L2

def shS : Sl → Sl
  | .sh d => .sh d
  | .ow d => .sh d
  | .io d => .sh d
  | _ => .no
def shE (Γ : Ev) : Ev := Γ.map shS
def wLcO (i : Nat) (vs : List Nat) (g : WG) (t : WT) (w : WE) : WE := fun Γ Q X => match Γ[i]? with
  | some (.ow (.dict ps)) => okW (shE Γ) vs ∧ lcW vs g t w (fun acc _ => (∀ e ∈ acc, fltP e) ∧ Q (.ow (.list acc)) Γ) (ps.map (·.1)) [] (wipeE (shE Γ) vs)
  | _ => False
section
variable {G : Gb} {W : WX} {g : TG} {wg : WG} {tt : TT} {wt : WT} {te : TE} {we : WE} {vs : List Nat} {C : Cf} {Hi H : Hp} {σ : St} {Γ : Ev}
theorem runO (nd : vs.Nodup) (hg : SimGw G g wg vs) (ht : SimT G noW tt wt) (he : SimE G noW te we) {i : Nat} {a : Addr} {od : Obj} {kvs : List (Key × V)} {ps : List (D × D)} {Q : VK} {kk : List D → Prop} (c : Rel G C Hi σ H Γ)
    (ei : Γ[i]? = some (.ow (.dict ps))) (hσ : σ[i]? = some (some (.ref a))) (ha : H a = some (.dK kvs)) (hr : RepKV G.K Hi kvs ps) (ok : okW (shE Γ) vs)
    (q : lcW vs wg wt we (fun acc _ => (∀ e ∈ acc, fltP e) ∧ kk acc) (ps.map (·.1)) [] (wipeE (shE Γ) vs))
    (hQ : ∀ p xs acc H2, Ext (upd H a (.frz od (.dK kvs))) H2 → upd H a (.frz od (.dK kvs)) p = none → H2 p = some (.lst xs) → (∀ Hi', Reps G.K Hi' xs acc) → kk acc → Q (.ref p) H2) : tLc (iKeys (tVar i)) g tt te vs σ (upd H a (.frz od (.dK kvs))) Q := by
  generalize hHL : upd H a (.frz od (.dK kvs)) = HL at *
  have haL : HL a = some (.frz od (.dK kvs)) := by rw [← hHL, upd_same]
  have hneL : ∀ b, b ≠ a → HL b = H b := fun b z => by rw [← hHL, upd_ne z]
  refine ⟨_, hσ, a, od, rfl, .inl ⟨kvs, haL, ?_⟩⟩
  obtain ⟨fp, c1⟩ := id c
  have hil := (List.getElem?_eq_some_iff.mp ei).1
  have hfi : a ∈ fp i := by
    obtain ⟨x, hx, p, h0, h1, _⟩ := c1.sl i _ ei
    rw [hσ] at hx; cases hx
    cases h1
    rw [h0]; simp
  have hHia : Hi a = none := c1.av i a hil hfi
  have hx : Ext Hi HL := fun b o e => by
    have z : b ≠ a := fun z => by subst z; rw [hHia] at e; cases e
    rw [hneL b z]
    exact c1.imm b o e
  let C0 : Cf := ⟨HL, HL, fun _ => False, fun _ h => h.elim, fun _ => none⟩
  have ownR : ∀ (j : Nat) (p : Addr) (d : D), j < Γ.length → j ≠ i → fp j = [p] → Own G.K Hi H p d → Rep G.K HL (.ref p) d := fun j p d hj hne hf ow => by
    have z : p ≠ a := fun z => by
      subst z
      exact hne (c1.dj j i p hj hil (by rw [hf]; simp) hfi)
    cases ow with
    | lst h r => exact .lst (by rw [hneL _ z]; exact h) (r.mono hx)
    | dct h r => exact .dct (.inl (by rw [hneL _ z]; exact h)) (r.mono hx)
  have c0 : Rel G C0 HL σ HL (shE Γ) := by
    refine ⟨fun _ => [], { frame := fun b o h _ => h, live := fun b h => h, imm := Ext.refl _, base := Ext.refl _, ov := fun b o h => .inl h, len := by rw [shE, List.length_map]; exact c.len, sl := fun j s hs => ?_, dj := fun j k b _ _ h => (nomatch h), av := fun j b _ h => (nomatch h) }⟩
    unfold shE at hs
    rw [List.getElem?_map] at hs
    cases e : Γ[j]? with
    | none => rw [e] at hs; cases hs
    | some s' =>
      rw [e] at hs
      cases hs
      have hj := (List.getElem?_eq_some_iff.mp e).1
      obtain ⟨x, hx1, hok⟩ := c1.sl j _ e
      cases s' with
      | no => exact ⟨x, hx1, rfl⟩
      | two _ _ => exact hok.elim
      | sh d => obtain ⟨_, v, h1, h2⟩ := hok; exact ⟨x, hx1, rfl, v, h1, h2.mono hx⟩
      | ow d =>
        obtain ⟨p, h0, h1, h2, _⟩ := hok
        by_cases z : j = i
        · subst z
          rw [ei] at e; cases e
          rw [hσ] at hx1; cases hx1
          cases h1
          exact ⟨_, hσ, rfl, _, rfl, .dct (.inr ⟨od, haL⟩) (hr.mono hx)⟩
        · exact ⟨x, hx1, rfl, _, h1, ownR j p d hj z h0 h2⟩
      | io d =>
        obtain ⟨p, h0, h1, h2, _⟩ := hok
        have z : j ≠ i := fun z => by subst z; rw [ei] at e; cases e
        exact ⟨x, hx1, rfl, _, h1, ownR j p d hj z h0 h2⟩
      | op t d => exact ⟨x, hx1, rfl⟩
  have hlk : kvs.length = ps.length := hr.length
  have it : Items G.K HL (Itk a od kvs) (ps.map (·.1)) := {
    stop := fun Hi' H i e k hi => ⟨k _ _ (e _ _ haL), by rw [List.length_map] at hi; omega⟩
    go := fun Hi' H i e k hi => ⟨k _ _ (e _ _ haL), by rw [List.length_map] at hi; omega⟩
    yld := fun Hi' H i x H' d e k hd y => by
      obtain ⟨rfl, kk, v, hkv, rfl⟩ := y
      rw [hr.at_key hkv hd]
      exact ⟨Hi', Ext.refl _, Ext.refl _, k, fun _ _ z => .inl z, rep_key kk⟩ }
  refine lc_run nd hg ht he (Qd := fun r _ => match r with
    | .ow (.list acc) => (∀ e ∈ acc, fltP e) ∧ kk acc
    | _ => False) c0 it ok q fun v r H' Hi' Γ' e o q' => ?_
  split at q'
  · rename_i acc
    obtain ⟨hl', fp, c⟩ := o
    have hat : (Γ' ++ [Sl.ow (.list acc)])[Γ'.length]? = some (.ow (.list acc)) := by simp
    obtain ⟨x, hx1, p, _, rfl, ow, hn⟩ := c.sl _ _ hat
    rw [hl', List.getElem?_append_right (Nat.le_refl _), Nat.sub_self] at hx1
    have : v = .ref p := by simpa using hx1
    subst this
    cases ow with
    | lst h1 h2 => exact hQ p _ acc H' (fun b o h => c.frame b o h fun z => z) hn h1 (fun Hi2 => h2.flat q'.1) q'.2
  · exact q'.elim
theorem sim_lcO (nd : vs.Nodup) (i : Nat) (hg : SimGw G g wg vs) (ht : SimT G noW tt wt) (he : SimE G noW te we) : SimE G W (tLk (tLc (iKeys (tVar i)) g tt te vs)) (wLcO i vs wg wt we) := by
  intro C Hi σ H Γ Q Qd Xd c hw hQ hX
  unfold wLcO at hw
  split at hw
  · rename_i ps ei
    obtain ⟨ok, q⟩ := hw
    obtain ⟨a, h1, ow⟩ := c.at_ow ei
    cases ow with
    | @dct kvs _ h r =>
      refine .inl ⟨a, .dK kvs, h, True.intro, fun od => ?_⟩
      refine runO nd hg ht he c ei h1 h r ok q fun p xs acc H2 e hp hl hr hk => ?_
      have hpa : p ≠ a := fun z => by subst z; rw [upd_same] at hp; cases hp
      have hp' : H p = none := by rwa [upd_ne hpa] at hp
      refine ⟨e _ _ upd_same, hQ _ _ _ Hi Γ (Ext.refl _) (outK c (fun b o hb => ?_) hp' (by rw [upd_ne hpa]; exact hl) hr) hk⟩
      by_cases z : b = a
      · subst z
        rw [h] at hb
        cases hb
        exact upd_same
      · rw [upd_ne z]
        exact e _ _ (by rw [upd_ne z]; exact hb)
  · exact hw.elim
end
section
variable {X : Cx} {G : Gb} {W : WX} {tg e : Expr} {ifs : List Expr} {scope : Scope} {own : List (Str × Nat)} {pos p : Pos} {g : TG} {wg : WG} {tt : TT} {wt : WT} {te : TE} {we : WE}
theorem de_lcO (i : Nat) {x : Str} (hc : X.calm = true) (hN : X.N.Nodup) (ok : BlkOk X.N X.env.scope scope own) (nd : (own.map (·.2)).Nodup)
    (hg : ∀ s H C cl fp, DGw (Blk X scope s H C cl fp) G (own.map (·.2)) tg g wg) (ht : ∀ s H C cl fp, DTs (Blk X scope s H C cl fp) G noW ifs tt wt) (he : ∀ s H C cl fp, DE (Blk X scope s H C cl fp) G noW e te we)
    (hNi : X.N[i]? = some x := by rfl) (hv : Vis X.env.scope x := by first | exact Or.inl rfl | exact Or.inr (Or.inl rfl) | exact Or.inr (Or.inr rfl)) (hd : (x == ("__debug__" : Str)) = false := by decide) (hcd : (x == ("__classdict__" : Str)) = false := by decide)
    (hs : ∀ y, foldedSetIterable (.Name x p) X.env y = pure y := by intro _; rfl) :
    DE X G W (.ListComp e [⟨tg, .Name x p, ifs, 0⟩] scope pos) (tLk (tLc (iKeys (tVar i)) g tt te (own.map (·.2)))) (wLcO i (own.map (·.2)) wg wt we) :=
  ⟨pe_lk (pe_lc hc hN (pi_keys (pe_var hNi hv hd hcd)) ok (fun s H C cl fp => (hg s H C cl fp).pe) (fun s H C cl fp => (ht s H C cl fp).pe) (fun s H C cl fp => (he s H C cl fp).pe) hs),
    sim_lcO nd i (hg X.s_0 X.H_0 0 [] []).sim (ht X.s_0 X.H_0 0 [] []).sim (he X.s_0 X.H_0 0 [] []).sim⟩
end
def slLO (vs : List Nat) (g : WG) (t : WT) (w : WE) (Γ : Ev) (Q : R → Ev → Prop) : Sl → Prop
  | .ow (.dict ps) => okW (shE Γ) vs ∧ lcW vs g t w (fun acc _ => (∀ e ∈ acc, fltP e) ∧ Q (.ow (.list acc)) Γ) (ps.map (·.1)) [] (wipeE (shE Γ) vs)
  | _ => False
theorem ev_wLcO (i : Nat) (vs : List Nat) (g : WG) (t : WT) (w : WE) (Γ : Ev) (Q : R → Ev → Prop) (X : XW) : wLcO i vs g t w Γ Q X = getS Γ i (slLO vs g t w Γ Q) := by
  rw [getS_at]
  unfold wLcO
  cases Γ[i]? with
  | none => rfl
  | some s =>
    cases s with
    | ow d => cases d <;> rfl
    | _ => rfl
end VL

set_option Elab.async false
set_option linter.all false
set_option maxRecDepth 100000
namespace VL
open PySem L2
def flatS : R → Prop
  | .sh d => flatD d = true
  | _ => False
def wFz (w : WE) : WE := fun Γ Q _ => w (shE Γ) (fun r _ => flatS r ∧ Q r Γ) fun _ _ => False
section
variable {G : Gb} {W : WX} {te : TE} {we : WE} {C : Cf} {Hi H H' HL : Hp} {σ : St} {Γ : Ev}
theorem Rel.frozen (c : Rel G C Hi σ H Γ) : Rel G ⟨H, H, fun _ => False, fun _ h => h.elim, fun _ => none⟩ H σ H (shE Γ) := by
  obtain ⟨fp, c1⟩ := id c
  refine ⟨fun _ => [], { frame := fun b o h _ => h, live := fun b h => h, imm := Ext.refl _, base := Ext.refl _, ov := fun b o h => .inl h, len := by rw [shE, List.length_map]; exact c.len, sl := fun j s hs => ?_, dj := fun j k b _ _ h => (nomatch h), av := fun j b _ h => (nomatch h) }⟩
  unfold shE at hs
  rw [List.getElem?_map] at hs
  cases e : Γ[j]? with
  | none => rw [e] at hs; cases hs
  | some s' =>
    rw [e] at hs
    cases hs
    have ownR : ∀ (p : Addr) (d : D), Own G.K Hi H p d → Rep G.K H (.ref p) d := fun p d ow => by
      cases ow with
      | lst h r => exact .lst h (r.mono c.imm)
      | dct h r => exact .dct (.inl h) (r.mono c.imm)
    obtain ⟨x, hx1, hok⟩ := c1.sl j _ e
    cases s' with
    | no => exact ⟨x, hx1, rfl⟩
    | sh d => obtain ⟨_, v, h1, h2⟩ := hok; exact ⟨x, hx1, rfl, v, h1, h2.mono c.imm⟩
    | ow d => obtain ⟨p, h0, h1, h2, _⟩ := hok; exact ⟨x, hx1, rfl, _, h1, ownR p d h2⟩
    | io d => obtain ⟨p, h0, h1, h2, _⟩ := hok; exact ⟨x, hx1, rfl, _, h1, ownR p d h2⟩
    | op t d => exact ⟨x, hx1, rfl⟩
    | two _ _ => exact hok.elim
theorem sim_fz (h : SimE G W te we) : SimE G W te (wFz we) := by
  intro C Hi σ H Γ Q Qd Xd c hw hQ hX
  refine h _ H σ H (shE Γ) Q _ _ c.frozen hw (fun v r H' Hi' Γ' e o q => ?_) fun x cl d H' Hi' Γ' e c' hx q => q.elim
  obtain ⟨f, q⟩ := q
  cases r with
  | sh d =>
    obtain ⟨c', rv⟩ := o
    obtain ⟨fp', c'⟩ := c'
    have k : Ext H H' := fun b o h => c'.frame b o h fun z => z
    exact hQ v (.sh d) H' Hi Γ (Ext.refl _) ⟨c.grow k (Ext.refl _) (c.imm.trans k) fun _ _ z => .inl z, rv.flat_any f⟩ q
  | ow d => exact f.elim
  | vr i => exact f.elim
  | op t d => exact f.elim
theorem de_fz {X : Cx} {e : Expr} (h : DE X G W e te we) : DE X G W e te (wFz we) := ⟨h.pe, sim_fz h.sim⟩
end
@[simp ↓] theorem ev_wFz (w : WE) (Γ : Ev) (Q : R → Ev → Prop) (X : XW) : wFz w Γ Q X = w (shE Γ) (fun r _ => flatS r ∧ Q r Γ) fun _ _ => False := rfl
@[simp] theorem flatS_bool (b : Bool) : flatS (.sh (.bool b)) = True := eq_true rfl
@[simp] theorem flatS_int (b : Int) : flatS (.sh (.int b)) = True := eq_true rfl
@[simp] theorem flatS_str (b : Str) : flatS (.sh (.str b)) = True := eq_true rfl
@[simp] theorem flatS_none : flatS (.sh .none) = True := eq_true rfl
@[simp ↓] theorem shE_nil : shE [] = [] := rfl
@[simp ↓] theorem shE_cons (s : Sl) (Γ : Ev) : shE (s :: Γ) = shS s :: shE Γ := rfl
@[simp ↓] theorem shS_sh (d : D) : shS (.sh d) = .sh d := rfl
@[simp ↓] theorem shS_ow (d : D) : shS (.ow d) = .sh d := rfl
@[simp ↓] theorem shS_io (d : D) : shS (.io d) = .sh d := rfl
@[simp ↓] theorem shS_no : shS .no = .no := rfl
@[simp ↓] theorem shS_op (t : Nat) (d : D) : shS (.op t d) = .no := rfl
end VL

set_option Elab.async false
set_option linter.all false
set_option maxRecDepth 100000
set_option maxHeartbeats 1000000
namespace VL
open PySem PySem.Spec PyProof.Rows L2
end VL
namespace VL
open PySem PySem.W PySem.Calls PyProof.Rows HandSHeadRun
end VL

set_option Elab.async false
set_option linter.all false
set_option maxRecDepth 100000
namespace VL
open PySem L2

section
variable {P : Program} {w : World} {K : Fg} {H : Hp} {h : Heap}
theorem tup_obj {a : Addr} {items : Array Value} (p : PyProof.Rows.IsTup h a items) : ∃ o n, h.get? a = some o ∧ o.cls = .type "tuple" ∧ o.data = .seq items n := by
  obtain ⟨o, h1, h2, n, h3⟩ := p
  exact ⟨o, n, h1, h2, h3⟩
mutual
theorem Rep.reads (I : HOk P w H h) : ∀ {v : V} {d : D} {u : Value}, Rep K H v d → d.canLay0 = true → RelV v u → ∃ as, Reads h u d as
  | _, _, u, .non, _, r => by cases (show u = .none from r); exact ⟨_, .none⟩
  | _, _, u, .bl b, _, r => by cases (show u = .bool b from r); exact ⟨_, .bool b⟩
  | _, _, u, .int i, _, r => by obtain ⟨t, rfl⟩ := r; exact ⟨_, .int i t⟩
  | _, _, u, .str x, _, r => by obtain ⟨t, rfl⟩ := r; exact ⟨_, .str x t⟩
  | _, _, u, .lst hl rs, e, r => by
    cases (show u = .ref _ from r)
    obtain ⟨_, its, n, rv, ho⟩ := I _ _ hl
    obtain ⟨as, ra⟩ := Reps.reads I rs (by simpa [PyData.canLay0] using e) rv
    exact ⟨_, .list ho rfl rfl (by simpa using ra)⟩
  | _, _, u, .tup hl rs, e, r => by
    cases (show u = .ref _ from r)
    obtain ⟨_, its, rv, ho⟩ := I _ _ hl
    obtain ⟨as, ra⟩ := Reps.reads I rs (by simpa [PyData.canLay0] using e) rv
    obtain ⟨o, n, h1, h2, h3⟩ := tup_obj ho
    exact ⟨_, .tuple h1 h2 h3 (by simpa using ra)⟩
  | _, _, u, .dct hl rs, e, r => by simp [PyData.canLay0] at e
theorem Reps.reads (I : HOk P w H h) : ∀ {vs : List V} {ds : List D} {us : List Value}, Reps K H vs ds → PyData.canLayAll0 ds = true → Vals vs us → ∃ as, ReadsAll h us ds as
  | _, _, _, .nil, _, .nil => ⟨_, .nil⟩
  | _, _, _, .cons h1 r1, e, .cons h2 r2 => by
    have e' := (show _ ∧ _ by simpa [PyData.canLayAll0] using e)
    obtain ⟨as, ra⟩ := Rep.reads I h1 e'.1 h2
    obtain ⟨bs, rb⟩ := Reps.reads I r1 e'.2 r2
    exact ⟨_, .cons ra rb⟩
end
end
section
variable {P : Program} {w : World} {K : Fg} {mg : Str → Option Value}
open PyProof.Rows in
theorem law_run {base : Heap} {x qual y : Str} {params : Arguments} {body : List Stmt} {scope : Scope} {dvs : List V} {kws : List (Str × V)} {f : Addr} {fd : FuncData} {N : List Str} {k : Nat} {ca : Str → Addr} {ws : WS}
    (F : FunD K x qual params body scope dvs kws f fd) (S : FnScope N [y] scope) (hV : FnV fsLaw N.length ws)
    (hb : ∀ (cdv : Value) (s : Shared) (H : Hp) (E : XK), Room k (callerA.deeper (envOfC qual scope s.heap.objs.size f cdv)) →
      ∃ t, PSs (cxOf (L2N.CX P w) P w K mg base N qual scope f cdv callerA [] s H E) body t ∧ SimS ⟨K, OpS K, ca⟩ (fun c d _ H => E c d H) t ws)
    (s : Shared) (H : Hp) (args : Args) (us : List Value) (vs : List V) (Q : VK) (E : XK) (hr : Room (k + 1) callerA) (e0 : Env0 P w K mg base callerA [] s H) (hbd : BindsTo s fd args ([y].zip us)) (r : Vals vs us) (hsp : lift ⟨K, OpS K, ca⟩ fsLaw vs H Q E) :
    codeAny (model P w) callerA (.call (.ref f) args) (CR (L2N.CX P w) [] P w H s Q E) s := by
  obtain ⟨oc, od, dV, kV, doc, pm, an, cdv, ct, osl, rfl, lk, hcd, _, _⟩ := F.ex
  have hl : vs.length = [y].length := lift_len fsLaw_len hsp
  have old : ∀ b o, base.get? b = some o → s.heap.get? b = some o := fun b o e => (e0.bs b o e).1
  have hkind : ∀ z ∈ [y].zip us, scope.names.lookup z.1 = some .local ∨ (scope.names.lookup z.1 = some .cell ∧ ((cellsFrom (s.heap.objs.size + 1) scope.names []).lookup z.1).isSome = true) := by
    rintro ⟨n, v⟩ hz
    rcases S.par n (List.of_mem_zip hz).1 with q | q
    · exact .inl q
    · exact .inr ⟨q, PySem.W.cellsFrom_some _ _ _ (.inl q)⟩
  have KX := e0.mod.kin.keeps old
  refine codeAny_call_function hr.depth (KX _ _ lk) rfl S.co S.gen rfl (PySem.W.codeRec_of KX hcd) (hbd _ _ _ _ ?_)
  refine wpAny_newFunctionEnv_cells S.kind hkind fun env he s1 ic => ?_
  subst he
  refine ⟨(e0.mod.nolimit.keeps old).keeps ic.toInCall.keep, codeAny_func ?_⟩
  obtain ⟨t, ht, hs⟩ := hb cdv s H E (hr.deeper _)
  have I := inv_start (CX := L2N.CX P w) (E := E) S hr.hd e0 hl r ic
  refine wpAny_mono (ht.run [] s1 (start N vs) H _ I (vbody hV hs hsp)) (fun fl s' hs => ?_) fun e s' hs => hs
  cases fl with
  | ret u =>
    obtain ⟨v, σ', H', J, rv, q⟩ := hs
    exact ⟨v, H', J.os, J.bare, J.base, J.hok, rv, q⟩
  | next =>
    obtain ⟨σ', H', J, q⟩ := hs
    exact ⟨.non, H', J.os, J.bare, J.base, J.hok, rfl, q⟩
  | brk =>
    obtain ⟨_, _, _, q⟩ := hs
    exact q.elim
  | cont =>
    obtain ⟨_, _, _, q⟩ := hs
    exact q.elim
end
end VL

set_option Elab.async false
set_option linter.all false
set_option maxRecDepth 100000
set_option maxHeartbeats 2000000
namespace VL
open PySem L2 PyProof.Rows

def LawRuns (P : Program) (w : World) (K : Fg) (mg : Str → Option Value) (base : Heap) (k : Nat) (f : Addr) (fd : FuncData) (y : Str) : Prop :=
  ∀ (s : Shared) (H : Hp) (args : Args) (us : List Value) (vs : List V) (Q : VK) (E : XK), Room k callerA → Env0 P w K mg base callerA [] s H → BindsTo s fd args ([y].zip us) → Vals vs us → lift ⟨K, OpS K, fun _ => 0⟩ fsLaw vs H Q E →
    codeAny (model P w) callerA (.call (.ref f) args) (CR (L2N.CX P w) [] P w H s Q E) s
section
variable {P : Program} {w : World} {K : Fg} {mg mb : Str → Option Value}
end
end VL

set_option Elab.async false
set_option linter.all false
set_option maxRecDepth 100000
namespace VL
open PySem L2

def reord {α : Type} (is : List Nat) (xs : List α) : List α := is.filterMap (xs[·]?)
theorem Vals.reord {vs : List V} {us : List Value} (r : Vals vs us) : ∀ is : List Nat, Vals (reord is vs) (VL.reord is us)
  | [] => .nil
  | i :: is => by
    have ih := Vals.reord r is
    unfold VL.reord at ih ⊢
    rw [List.filterMap_cons, List.filterMap_cons]
    cases e : vs[i]? with
    | none =>
      have : us[i]? = none := by
        rw [List.getElem?_eq_none_iff] at e ⊢
        rw [← r.length]; exact e
      rw [this]; exact ih
    | some v =>
      obtain ⟨u, hu, rv⟩ := r.get e
      rw [hu]
      exact .cons rv ih
theorem Reps.reord {K : Fg} {H : Hp} {vs : List V} {ds : List D} (r : Reps K H vs ds) : ∀ is : List Nat, Reps K H (reord is vs) (VL.reord is ds)
  | [] => .nil
  | i :: is => by
    have ih := Reps.reord r is
    unfold VL.reord at ih ⊢
    rw [List.filterMap_cons, List.filterMap_cons]
    cases e : vs[i]? with
    | none =>
      have : ds[i]? = none := by
        rw [List.getElem?_eq_none_iff] at e ⊢
        rw [← r.length]; exact e
      rw [this]; exact ih
    | some v =>
      obtain ⟨d, hd, rv⟩ := r.get' e
      rw [hd]
      exact .cons rv ih
def tCallKw (sp : Sp) (is : List Nat) (m : Nat) (E : St → XK) (t : TA) : TE := fun σ H Q => t σ H fun vs H1 => vs.length = m ∧ sp (reord is vs) H1 Q (E σ)
def wCallKw (fs : FS) (is : List Nat) (m : Nat) (wa : WA) : WE := fun Γ Q X => wa Γ (fun rs Γ1 => frAll rs Γ1 fun ds Γ2 => ds.length = m ∧ fs none (reord is ds) (fun r _ => Q r Γ2) fun x _ => X x Γ2) X
def GdK (P : Program) (wd : World) (G : Gb) (mg : Str → Option Value) (base : Heap) (k : Nat) (x : Str) (fs : FS) (ps ks : List Str) (is : List Nat) : Prop :=
  ∃ (f : Addr) (fd : FuncData), mg x = some (.ref f) ∧ PySem.W.keepIn G.K (.ref f) = true ∧ FnOk P wd G.K mg base (L2N.CX P wd) k f fd ps (lift G fs) ∧ ∀ (s : Shared) (ws : List Value), ws.length = ks.length → BindsTo s fd ⟨[], ks.zip ws⟩ (ps.zip (reord is ws))
theorem GdK.mono {P : Program} {wd : World} {G : Gb} {mg : Str → Option Value} {base : Heap} {k k' : Nat} {x : Str} {fs : FS} {ps ks : List Str} {is : List Nat} (h : GdK P wd G mg base k x fs ps ks is) (l : k ≤ k') : GdK P wd G mg base k' x fs ps ks is :=
  let ⟨f, fd, h1, h2, h3, h4⟩ := h
  ⟨f, fd, h1, h2, h3.mono l, h4⟩
structure DK (X : Cx) (G : Gb) (W : WX) (kws : List Keyword) (t : TA) (w : WA) : Prop where
  pe : PK X kws t
  sim : SimA G W t w
section
variable {X : Cx} {G : Gb} {W : WX} {e : Expr} {te : TE} {we : WE} {pos p kpos : Pos} {t : TA} {w : WA} {kws : List Keyword} {nm : Option Str} {k : Nat} {x : Str} {fs : FS} {ps ks : List Str} {is : List Nat}
theorem dk_nil : DK X G W [] tNil wNil := ⟨pk_nil, sim_nil⟩
theorem dk_cons (he : DE X G W e te we) (hr : DK X G W kws t w) : DK X G W (⟨nm, e, kpos⟩ :: kws) (tCons te t) (wCons we w) := ⟨pk_cons he.pe hr.pe, sim_cons he.sim hr.sim⟩
theorem sim_callKw {m : Nat} (ha : SimA G W t w) : SimE G W (tCallKw (lift G fs) is m (L2.WE W) t) (wCallKw fs is m w) := by
  intro C Hi σ H Γ Q Qd Xd c hw hQ hX
  refine ha C Hi σ H Γ _ _ Xd c hw (fun vs rs H1 Hi1 Γ1 e1 c1 h1 q1 => ?_) hX
  obtain ⟨ds, Hi2, Γ2, e2, c2, rp, hl, q2⟩ := h1.share (Ext.refl _) c1 q1
  have f2 := e1.trans e2
  refine ⟨by rw [rp.length]; exact hl, none, reord is ds, Hi2, _, _, [], reord is vs, [], rfl, ⟨rfl, rfl⟩, rp.reord is, c2.imm, fun a ha => (nomatch ha), q2, fun v r H' Hi' io' fp' L ra q => ?_, fun x cl d H' Hi' io' fp' L hx q => ?_⟩
  · have c3 := c2.grow (fun a o h => L.keep a o h (fun z => nomatch z)) L.e L.imm L.ov
    cases r with
    | sh d => exact hQ v (.sh d) H' Hi' Γ2 (f2.trans L.e) ⟨c3, ra⟩ q
    | vr i => exact ra.elim
    | op t d =>
      obtain ⟨ht, p, fp2, rfl, okk, hn⟩ := ra
      obtain ⟨fpc, c2⟩ := c2
      have c4 := c2.grow (fun a o h => L.keep a o h (fun z => nomatch z)) L.e L.imm L.ov
      refine hQ _ (.op t d) H' Hi' Γ2 (f2.trans L.e) ⟨c4.len, _, c4.push2 (x := some (.ref p)) (l := fp2) (s := .op t d) ⟨p, rfl, okk, fun a ha => .inl (c2.fresh (hn a ha).2.1).2, fun q hq => by omega⟩ fun a ha => ?_⟩ q
      exact ⟨(hn a ha).1, fun j hj hm => by obtain ⟨o, z⟩ := c2.trk hj hm; rw [(hn a ha).2.1] at z; cases z⟩
    | ow d =>
      obtain ⟨p, rfl, ow, hn, h0, hnf⟩ := ra
      obtain ⟨fpc, c2⟩ := c2
      obtain ⟨n1, n2⟩ := c2.fresh h0
      have c4 := c2.grow (fun a o h => L.keep a o h (fun z => nomatch z)) L.e L.imm L.ov
      refine hQ _ (.ow d) H' Hi' Γ2 (f2.trans L.e) ⟨c4.len, _, c4.push2 (x := some (.ref p)) (l := [p]) (s := .ow d) ⟨p, rfl, rfl, ow, n2⟩ fun a ha => ?_⟩ q
      have : a = p := by simpa using ha
      subst this
      exact ⟨hn, fun j hj hm => by obtain ⟨o, z⟩ := c2.trk hj hm; rw [h0] at z; cases z⟩
  · have c3 := c2.grow (fun a o h => L.keep a o h (fun z => nomatch z)) L.e L.imm L.ov
    exact hX x cl d H' Hi' Γ2 (f2.trans L.e) c3 hx q
theorem de_callKw (hK : X.K = G.K) (F : GdK X.prog X.w G X.mg X.base k x fs ps ks is) (hr : Room k X.A) (tk : L2N.Takes X W) (ha : DK X G W kws t w) (hall : (backToKw pos (keywordEach kws X.env)).all (·.1.isSome) = true := by rfl)
    (hks : (backToKw pos (keywordEach kws X.env)).filterMap (·.1) = ks := by rfl) (hg : Gl X x := by rfl) (hdb : (x == ("__debug__" : Str)) = false := by decide)
    (hpl : ((backTo pos (starEach [] X.env)).any (·.1) || (backToKw pos (keywordEach kws X.env)).any (·.1.isNone)) = false := by rfl) :
    DE X G W (.Call (.Name x p) [] kws pos) (tCallKw (lift G fs) is ks.length (L2.WE W) t) (wCallKw fs is ks.length w) := by
  obtain ⟨f, fd, h1, h2, h3, h4⟩ := F
  refine ⟨⟨fun pins s σ H Q I h => ?_⟩, sim_callKw ha.sim⟩
  rw [← hK] at h2 h3
  refine wpAny_Call_Name_kw (ld_glob I hg h1 ?_ hdb)
  refine PySem.W.callWith_KW0 (h₀ := X.base) I.ok.mod.kin h2 hall (thn (ha.pe.run pos pins s σ H _ I h) fun ws s1 ⟨vs, H1, I1, r, hl, q⟩ => ⟨I1.kIn, ?_⟩) hpl
  rw [hks]
  have hwl : ws.length = ks.length := by rw [← r.length]; exact hl
  refine wpAny_call (codeAny_mono (h3.run X.A X.stack s1 H1 ⟨[] ++ [], ks.zip ws⟩ (reord is ws) (reord is vs) Q (L2.WE W σ) hr I1.env0 (h4 s1 ws hwl) (Vals.reord r is) q) fun r s' hq => ?_)
  cases r with
  | error e => exact L2N.passAt tk σ pins H1 s1 e s' I1 hq
  | ok fl =>
    cases fl with
    | ret u => exact I1.after hq
    | next => exact False.elim hq
    | brk => exact False.elim hq
    | cont => exact False.elim hq
end
def oNeS : Op2 := fun a b k => isS a fun x => isS b fun y => k (.sh (.bool (!decide (x = y))))
theorem c_neS {X : Cx} {G : Gb} : C2 X G .NotEq rNe oNeS := ⟨op_ne, by
  intro C Hi σ H Γ x y a b k Q c ha hb h q
  obtain ⟨i, rfl, h1⟩ := isS_inv h
  obtain ⟨j, rfl, h2⟩ := isS_inv h1
  rw [ha.str, hb.str]
  refine ⟨rfl, ?_⟩
  have : decide (V.str i = V.str j) = decide (i = j) := by by_cases e : i = j <;> simp [e]
  rw [this]
  exact q _ _ H Hi (Ext.refl _) (out_bl c _) h2⟩
end VL

set_option Elab.async false
set_option linter.all false
set_option maxRecDepth 100000
namespace VL
open PySem L2

def dmerge (kvs : List (Key × D)) (acc : List (D × D)) : List (D × D) := kvs.foldl (fun acc p => dput acc (kD p.1) p.2) acc
end VL

set_option Elab.async false
set_option linter.all false
set_option maxRecDepth 100000
namespace VL
open PySem L2

theorem takes0N {X : Cx} : L2N.Takes X (fun _ _ _ _ => False) := fun _ _ x => by
  obtain ⟨_, _, _, _, _, _, _, _, _, _, _, _, _, _, _, _, z⟩ := x
  exact z.elim
structure ExF (K : Fg) (mg : Str → Option Value) (ca : Str → Addr) (nm : Str) : Prop where
  g : mg nm = some (.ref (ca nm))
  e : PySem.W.excIn K (ca nm) He.veBase "ValueError.__new__" = true
  k : PySem.W.keepIn K (.ref (ca nm)) = true
  s : PySem.W.subIn K (.ref (ca nm)) (.type "BaseException") = some true
  t : PySem.W.typeIn K (.ref (ca nm)) = some (.type "type")
theorem ExF.of {K : Fg} {h : Heap} {mg : Str → Option Value} {nm : Str} (X : K.In h) (G : h.Ns mainGlobals mg) (c1 : (He.Fa.glo nm).ok K = true) (c2 : (He.Fa.exc nm).ok K = true) : ExF K mg (He.ga K) nm :=
  let ⟨a, b, c, d⟩ := He.exc_ok c2
  ⟨He.glo_ok X G c1, a, b, c, d⟩
def wRaise (nm : Str) : WS := fun Γ _ X => X ⟨nm, none⟩ Γ
section
variable {X : Cx} {G : Gb} {W : WX} {nm m : Str} {j : Nat} {p p2 pos pos' : Pos}
end
end VL

set_option Elab.async false
set_option linter.all false
set_option maxRecDepth 100000
namespace VL
open PySem PySem.Spec PyProof.Rows L2

section
variable {X : Cx} {y n : Str} {c : Value} {i : Nat} {blk su : List Stmt} {s1 : Stmt} {q1 q2 q3 : Pos} {tb : WX → TS} {ts : Addr → TS}
end
end VL

set_option Elab.async false
set_option linter.all false
set_option maxRecDepth 100000
namespace VL
open PySem PySem.Spec PyProof.Rows L2

section
open PySem.W PySem.Calls
variable {prog : Program} {w : World} {A : Around} {E : Value → Shared → Prop} {s : Shared} {K : Fg} {x D : Addr} {ox : Obj} {od : Option Obj}
end
structure ExAll (K : Fg) (xs ys : List Str) : Prop where
  c : ∀ x ∈ xs, ExcC K (He.ga K x)
  ve : ∀ x ∈ xs, PySem.W.kitOne K (.ref (He.ga K x)) (.type "ValueError") = some true
  ct : ∀ x ∈ xs, PySem.W.exmOne K (.ref (He.ga K x)) (.ref (He.ga K "ScoreError")) = some true
  k : ∀ x ∈ xs, ∀ y ∈ ys, PySem.W.kitOne K (.ref (He.ga K x)) (.ref (He.ga K y)) = some (decide (x = y))
def slKp (xs : List Str) : Sl → (Str → Prop) → Prop
  | .op t (.str x), k => t % 10 = 2 ∧ x ∈ xs ∧ k x
  | .op t (.tuple [.str x, _]), k => t % 10 = 6 ∧ x ∈ xs ∧ k x
  | _, _ => False
def wKpA (xs : List Str) (i : Nat) (f : Str → Bool) : WE := fun Γ Q _ => match Γ[i]? with
  | some s => slKp xs s fun x => Q (.sh (.bool (f x))) Γ
  | none => False
section
variable {X : Cx} {G : Gb} {W : WX} {xs ys : List Str} {p p2 p3 p4 pos : Pos}
def tCs (K : Fg) : List Str → TA
  | [] => tNil
  | y :: r => tCons (tC (.ref (He.ga K y))) (tCs K r)
structure DC (X : Cx) (K : Fg) (es : List Expr) (zs : List Str) : Prop where
  pa : PA X es (tCs K zs)
def wMov (j i : Nat) : WS := fun Γ D _ => i ≠ j ∧ i < Γ.length ∧ j < Γ.length ∧ match Γ[i]? with
  | some (.op t d) => 10 ≤ t ∧ D.nx ((Γ.set i .no).set j (.op t d))
  | _ => False
end
end VL

set_option Elab.async false
set_option linter.all false
set_option maxRecDepth 100000
namespace VL
open PySem PySem.Spec PyProof.Rows L2

def exW (e : Exn) (k : Sl → Prop) : Prop := match e.idx with
  | none => k (.op 12 (.str e.name))
  | some .non => k (.op 16 (.tuple [.str e.name, .none]))
  | some (.int j) => k (.op 16 (.tuple [.str e.name, .int j]))
  | _ => False
def wTry (xs : List Str) (i : Nat) (wb ws : WS) : WS := fun Γ D _ => wb Γ D fun e Γ1 => e.name ∈ xs ∧ exW e fun s =>
  ws (Γ1.set i s) ⟨fun Γ2 => D.nx (Γ2.set i .no), D.rt, fun Γ2 => D.bk (Γ2.set i .no), fun Γ2 => D.ct (Γ2.set i .no)⟩ fun _ _ => False
section
variable {X : Cx} {G : Gb} {W : WX} {xs ys : List Str}
theorem Rel.kept (hO : G.Op = OpS G.K) {C : Cf} {Hi H : Hp} {σ : St} {Γ : Ev} (c : Rel G C Hi σ H Γ) (i : Nat) {a : Addr} (ha : H a = none) {cl : Value} {x : Exn} {d : Option Addr} {k : Sl → Prop} (hca : G.ca = He.ga G.K) (hx : G.xr x cl d Hi) (q : exW x k) :
    ∃ s, k s ∧ Rel G C Hi (σ.set i (some (.ref a))) (upd H a (KpD cl d a)) (Γ.set i s) := by
  obtain ⟨fp, c0⟩ := id c
  obtain ⟨z1, z2⟩ := hx
  subst z1
  have main : ∀ s, (∀ t dd, s = .op t dd → t = 12 ∨ t = 16) → (∃ t dd, s = .op t dd ∧ (OpS G.K).ok t dd Hi (upd H a (KpD (.ref (G.ca x.name)) d a)) a [a]) → Rel G C Hi (σ.set i (some (.ref a))) (upd H a (KpD (.ref (G.ca x.name)) d a)) (Γ.set i s) := fun s hs ⟨t, dd, es, ok⟩ => by
    subst es
    have ht := hs t dd rfl
    refine Rel.setOw ⟨_, c0.push (x := some (.ref a)) (l := [a]) (s := .op t dd) (Ext.new ha) ⟨a, rfl, by rw [hO]; exact ok, fun b hb => ?_, fun q hq => by omega⟩ fun b hb => ?_⟩ c.len
    · have : b = a := by simpa using hb
      rw [this]; exact .inl (c0.fresh ha).2
    · have : b = a := by simpa using hb
      rw [this]; exact ha
  unfold exW at q
  split at q
  · rename_i e
    rw [e] at z2
    have z2 : d = none := z2
    subst z2
    exact ⟨_, q, main _ (fun t dd e => by cases e; exact .inl rfl) ⟨_, _, rfl, .inr (.inr (.inl ⟨by decide, x.name, rfl, rfl, by rw [hca, upd_same]⟩))⟩⟩
  · rename_i e
    rw [e] at z2
    obtain ⟨dx, hd, hdx⟩ := z2
    subst hd
    exact ⟨_, q, main _ (fun t dd e => by cases e; exact .inr rfl) ⟨_, _, rfl, .inr (.inr (.inr (.inr (.inr ⟨by decide, x.name, dx, .non, .none, rfl, rfl, by rw [hca, upd_same], hdx, .non⟩))))⟩⟩
  · rename_i j e
    rw [e] at z2
    obtain ⟨dx, hd, hdx⟩ := z2
    subst hd
    exact ⟨_, q, main _ (fun t dd e => by cases e; exact .inr rfl) ⟨_, _, rfl, .inr (.inr (.inr (.inr (.inr ⟨by decide, x.name, dx, .int j, .int j, rfl, rfl, by rw [hca, upd_same], hdx, .int j⟩))))⟩⟩
  · exact q.elim
def slNone : Sl → (Bool → Prop) → Prop
  | .sh d, k => k (isNone d)
  | .op _ _, k => k false
  | _, _ => False
def wIsNV (i : Nat) : WE := fun Γ Q _ => match Γ[i]? with
  | some s => slNone s fun b => Q (.sh (.bool b)) Γ
  | none => False
end
@[simp ↓] theorem ev_wTry (xs : List Str) (i : Nat) (wb ws : WS) (Γ : Ev) (D : WD) (X : XW) : wTry xs i wb ws Γ D X = wb Γ D fun e Γ1 => e.name ∈ xs ∧ exW e fun s =>
  ws (Γ1.set i s) ⟨fun Γ2 => D.nx (Γ2.set i .no), D.rt, fun Γ2 => D.bk (Γ2.set i .no), fun Γ2 => D.ct (Γ2.set i .no)⟩ fun _ _ => False := rfl
@[simp ↓] theorem exW_none (nm : Str) (k : Sl → Prop) : exW ⟨nm, none⟩ k = k (.op 12 (.str nm)) := rfl
@[simp ↓] theorem exW_non (nm : Str) (k : Sl → Prop) : exW ⟨nm, some .non⟩ k = k (.op 16 (.tuple [.str nm, .none])) := rfl
@[simp ↓] theorem exW_int (nm : Str) (j : Int) (k : Sl → Prop) : exW ⟨nm, some (.int j)⟩ k = k (.op 16 (.tuple [.str nm, .int j])) := rfl
@[simp ↓] theorem ev_wRaise (nm : Str) (Γ : Ev) (D : WD) (X : XW) : wRaise nm Γ D X = X ⟨nm, none⟩ Γ := rfl
@[simp ↓] theorem ev_wKpA (xs : List Str) (i : Nat) (f : Str → Bool) (Γ : Ev) (Q : R → Ev → Prop) (X : XW) : wKpA xs i f Γ Q X = getS Γ i fun s => slKp xs s fun x => Q (.sh (.bool (f x))) Γ := by
  rw [getS_at]
  unfold wKpA
  cases Γ[i]? <;> rfl
@[simp ↓] theorem slKp_opI (xs : List Str) (t : Nat) (x : Str) (d : D) (k : Str → Prop) : slKp xs (.op t (.tuple [.str x, d])) k = (t % 10 = 6 ∧ x ∈ xs ∧ k x) := rfl
@[simp ↓] theorem slKp_op (xs : List Str) (t : Nat) (x : Str) (k : Str → Prop) : slKp xs (.op t (.str x)) k = (t % 10 = 2 ∧ x ∈ xs ∧ k x) := rfl
@[simp ↓] theorem ev_wIsNV (i : Nat) (Γ : Ev) (Q : R → Ev → Prop) (X : XW) : wIsNV i Γ Q X = getS Γ i fun s => slNone s fun b => Q (.sh (.bool b)) Γ := by
  rw [getS_at]
  unfold wIsNV
  cases Γ[i]? <;> rfl
@[simp ↓] theorem slNone_sh (d : D) (k : Bool → Prop) : slNone (.sh d) k = k (isNone d) := rfl
@[simp ↓] theorem slNone_op (t : Nat) (d : D) (k : Bool → Prop) : slNone (.op t d) k = k false := rfl
def slMov (Γ : Ev) (j i : Nat) (D : WD) : Sl → Prop
  | .op t d => 10 ≤ t ∧ D.nx ((Γ.set i .no).set j (.op t d))
  | _ => False
@[simp ↓] theorem ev_wMov (j i : Nat) (Γ : Ev) (D : WD) (X : XW) : wMov j i Γ D X = (i ≠ j ∧ i < Γ.length ∧ j < Γ.length ∧ getS Γ i fun s => slMov Γ j i D s) := by
  rw [getS_at]
  unfold wMov
  cases Γ[i]? with
  | none => rfl
  | some s => cases s <;> rfl

@[simp ↓] theorem slMov_op (Γ : Ev) (j i : Nat) (K : WD) (t : Nat) (d : PyData) : slMov Γ j i K (.op t d) = (10 ≤ t ∧ K.nx ((Γ.set i .no).set j (.op t d))) := rfl
end VL

set_option Elab.async false
set_option linter.all false
set_option maxRecDepth 100000
set_option maxHeartbeats 2000000
namespace VL
open PySem PySem.Spec PyProof.Rows L2

section
variable {K : Fg} {Hi H : Hp}
theorem Fds.names : ∀ {sp : List (Str × Bool)} {fs : List (Str × V)} {ds : List D} {l : List Addr}, Fds K Hi H sp fs ds l → ∀ f ∈ fs.map (·.1), f ∈ sp.map (·.1)
  | _, _, _, _, .nil, f, h => nomatch h
  | _, _, _, _, .sh (f := g) _ t, f, h => by
    rcases List.mem_cons.mp h with rfl | h
    · exact List.mem_cons_self
    · exact List.mem_cons_of_mem _ (Fds.names t f h)
  | _, _, _, _, .ow (f := g) _ _ t, f, h => by
    rcases List.mem_cons.mp h with rfl | h
    · exact List.mem_cons_self
    · exact List.mem_cons_of_mem _ (Fds.names t f h)
theorem Fds.len : ∀ {sp : List (Str × Bool)} {fs : List (Str × V)} {ds : List D} {l : List Addr}, Fds K Hi H sp fs ds l → fs.length = ds.length ∧ ds.length ≤ sp.length
  | _, _, _, _, .nil => ⟨rfl, Nat.zero_le _⟩
  | _, _, _, _, .sh _ t => ⟨congrArg (· + 1) (Fds.len t).1, Nat.succ_le_succ (Fds.len t).2⟩
  | _, _, _, _, .ow _ _ t => ⟨congrArg (· + 1) (Fds.len t).1, Nat.succ_le_succ (Fds.len t).2⟩
theorem lookup_cons {f g : Str} {v : V} {fs : List (Str × V)} : List.lookup f ((g, v) :: fs) = if f = g then some v else fs.lookup f := by
  rw [List.lookup_cons]
  by_cases h : f = g
  · subst h; simp
  · have : (f == g) = false := by simpa using h
    rw [this, if_neg h]
theorem Fds.none {f : Str} : ∀ {fs : List (Str × V)}, f ∉ fs.map (·.1) → fs.lookup f = Option.none
  | [], _ => rfl
  | (g, v) :: fs, h => by
    rw [lookup_cons, if_neg (fun z => h (by rw [z]; exact List.mem_cons_self))]
    exact Fds.none fun z => h (List.mem_cons_of_mem _ z)
theorem Fds.get : ∀ {sp : List (Str × Bool)} {fs : List (Str × V)} {ds : List D} {l : List Addr}, Fds K Hi H sp fs ds l → (sp.map (·.1)).Nodup → ∀ {k : Nat} {f : Str} {d : D}, sp[k]? = some (f, false) → ds[k]? = some d → ∃ v, fs.lookup f = some v ∧ Rep K Hi v d
  | _, _, _, _, .nil, _, k, f, d, _, h => by simp at h
  | _, _, _, _, .sh (f := g) (sp := sp0) r t, nd, 0, f, d, h1, h2 => by
    simp at h1 h2
    subst h1 h2
    exact ⟨_, by rw [lookup_cons, if_pos rfl], r⟩
  | _, _, _, _, .sh (f := g) (sp := sp0) r t, nd, k + 1, f, d, h1, h2 => by
    obtain ⟨n1, n2⟩ := List.nodup_cons.mp nd
    have h1' : sp0[k]? = some (f, false) := by simpa using h1
    obtain ⟨v, e, rv⟩ := Fds.get t n2 (k := k) h1' (by simpa using h2)
    refine ⟨v, ?_, rv⟩
    rw [lookup_cons, if_neg]
    · exact e
    · rintro rfl
      exact n1 (List.mem_map.mpr ⟨_, List.mem_of_getElem? h1', rfl⟩)
  | _, _, _, _, .ow (f := g) (sp := sp0) _ _ t, nd, 0, f, d, h1, h2 => by simp at h1
  | _, _, _, _, .ow (f := g) (sp := sp0) _ _ t, nd, k + 1, f, d, h1, h2 => by
    obtain ⟨n1, n2⟩ := List.nodup_cons.mp nd
    have h1' : sp0[k]? = some (f, false) := by simpa using h1
    obtain ⟨v, e, rv⟩ := Fds.get t n2 (k := k) h1' (by simpa using h2)
    refine ⟨v, ?_, rv⟩
    rw [lookup_cons, if_neg]
    · exact e
    · rintro rfl
      exact n1 (List.mem_map.mpr ⟨_, List.mem_of_getElem? h1', rfl⟩)
def putK (ds : List D) (k : Nat) (d : D) : List D := if k < ds.length then ds.set k d else ds ++ [d]
theorem putK_s (x : D) (ds : List D) (k : Nat) (d : D) : putK (x :: ds) (k + 1) d = x :: putK ds k d := by
  unfold putK
  by_cases h : k < ds.length
  · rw [if_pos h, if_pos (by simp; omega)]; rfl
  · rw [if_neg h, if_neg (by simp; omega)]; rfl
theorem Fds.put : ∀ {sp : List (Str × Bool)} {fs : List (Str × V)} {ds : List D} {l : List Addr}, Fds K Hi H sp fs ds l → (sp.map (·.1)).Nodup → ∀ {k : Nat} {f : Str} {d : D} {v : V}, sp[k]? = some (f, false) → k ≤ ds.length → Rep K Hi v d → Fds K Hi H sp (putF f v fs) (putK ds k d) l
  | sp, _, _, _, .nil, nd, k, f, d, v, h1, h2, r => by
    have : k = 0 := by simpa using h2
    subst this
    cases sp with
    | nil => simp at h1
    | cons x sp =>
      simp at h1
      subst h1
      exact .sh r .nil
  | _, _, _, _, .sh (f := g) (sp := sp0) r0 t, nd, 0, f, d, v, h1, h2, r => by
    simp at h1
    subst h1
    show Fds K Hi H _ (if g = g then _ else _) _ _
    rw [if_pos rfl]
    exact .sh r t
  | _, _, _, _, .sh (f := g) (sp := sp0) (v := v0) (fs := fs) r0 t, nd, k + 1, f, d, v, h1, h2, r => by
    obtain ⟨n1, n2⟩ := List.nodup_cons.mp nd
    have h1' : sp0[k]? = some (f, false) := by simpa using h1
    have ih := Fds.put t n2 (k := k) (d := d) (v := v) h1' (by simpa using h2) r
    rw [putK_s]
    show Fds K Hi H _ (if g = f then (g, v) :: fs else (g, v0) :: putF f v fs) _ _
    rw [if_neg]
    · exact .sh r0 ih
    · rintro rfl
      exact n1 (List.mem_map.mpr ⟨_, List.mem_of_getElem? h1', rfl⟩)
  | _, _, _, _, .ow (f := g) (sp := sp0) _ _ t, nd, 0, f, d, v, h1, h2, r => by simp at h1
  | _, _, _, _, .ow (f := g) (sp := sp0) (q := q0) (fs := fs) o n t, nd, k + 1, f, d, v, h1, h2, r => by
    obtain ⟨n1, n2⟩ := List.nodup_cons.mp nd
    have h1' : sp0[k]? = some (f, false) := by simpa using h1
    have ih := Fds.put t n2 (k := k) (d := d) (v := v) h1' (by simpa using h2) r
    rw [putK_s]
    show Fds K Hi H _ (if g = f then (g, v) :: fs else (g, V.ref q0) :: putF f v fs) _ _
    rw [if_neg]
    · exact .ow o n ih
    · rintro rfl
      exact n1 (List.mem_map.mpr ⟨_, List.mem_of_getElem? h1', rfl⟩)
end
end VL

set_option Elab.async false
set_option linter.all false
set_option maxRecDepth 100000
set_option pp.maxSteps 600
namespace VL
open PySem L2
section
variable {G : Gb} {W : WX} {C : Cf} {Hi H : Hp} {σ : St} {Γ : Ev} {fp : Nat → List Addr}
theorem Core.newTop {v : V} {s s' : Sl} {T : Addr} {o : HO} (c : Core G C Hi (σ ++ [some v]) H (Γ ++ [s]) fp) (hl : Γ.length = σ.length) (hT : H T = none)
    (sok : SlOk G C Hi (upd H T o) (some (.ref T)) (T :: fp Γ.length) s') : Rel G C Hi (σ ++ [some (.ref T)]) (upd H T o) (Γ ++ [s']) := by
  have hi : Γ.length < (Γ ++ [s]).length := by simp
  have fr := c.fresh hT
  have ne : ∀ a o', H a = some o' → upd H T o a = some o' := fun a o' h => by rw [upd_ne (fun z => by rw [z, hT] at h; cases h)]; exact h
  have out : ∀ j, j < (Γ ++ [s]).length → T ∉ fp j := fun j hj hm => by
    obtain ⟨u, hu⟩ := c.trk hj hm
    rw [hT] at hu; cases hu
  have c2 := c.step (H' := upd H T o) (i := Γ.length) (x := some (.ref T)) (l := T :: fp Γ.length) (s := s') hi (Ext.refl _) (fun a o' h _ => ne a o' h) (fun a ha => by
    obtain ⟨u, hu⟩ := c.trk hi ha
    rw [ne a u hu]; simp) (fun a o' h => ne a o' (c.imm a o' h)) (fun a o' h => .inl h) sok (fun a ha => by
    rcases List.mem_cons.mp ha with rfl | ha
    · exact ⟨fr.1, fun j hj _ => out j hj⟩
    · exact ⟨c.av _ _ hi ha, fun j hj hne hm => hne (c.dj j _ a hj hi hm ha)⟩) fun j a hj _ ha => c.av j a hj ha
  have e1 : (σ ++ [some v]).set Γ.length (some (.ref T)) = σ ++ [some (.ref T)] := by rw [hl]; simp
  have e2 : (Γ ++ [s]).set Γ.length s' = Γ ++ [s'] := by simp
  rw [e1, e2] at c2
  exact ⟨_, c2⟩
def newW (r : R) (k : D → Prop) : Prop := match r with
  | .ow (.list l) => k (.list l)
  | .op t d => t = 15 ∧ k d
  | _ => False
def atW (d : D) (k : Prop) : Prop := match d with
  | .int _ => k
  | .str _ => k
  | _ => False
@[simp ↓] theorem newW_ow (l : List D) (k : D → Prop) : newW (.ow (.list l)) k = k (.list l) := rfl
@[simp ↓] theorem newW_op (t : Nat) (d : D) (k : D → Prop) : newW (.op t d) k = (t = 15 ∧ k d) := rfl
@[simp ↓] theorem atW_i (i : Int) (k : Prop) : atW (.int i) k = k := rfl
@[simp ↓] theorem atW_s (x : Str) (k : Prop) : atW (.str x) k = k := rfl
def wTupN (w1 w2 : WE) : WE := fun Γ Q X => w1 Γ (fun r1 Γ1 => rdW r1 Γ1 fun d1 => atW d1 (w2 Γ1 (fun r2 Γ2 => newW r2 fun d2 => Q (.op 15 (.tuple [d1, d2])) Γ2) X)) X
def wTupD (w1 w2 : WE) : WE := fun Γ Q X => wTup (wCons w1 (wCons w2 wNil)) Γ Q X ∨ wTupN w1 w2 Γ Q X
theorem atom_new {d1 : D} {k : Prop} {v1 : V} (b : Rdb G.K Hi H v1 d1) (h : atW d1 k) : k ∧ ∀ Hi' H', NewT G.K Hi' H' v1 d1 [] := by
  cases d1 with
  | int i => rw [b.int]; exact ⟨h, fun _ _ => .int i⟩
  | str x => rw [b.str]; exact ⟨h, fun _ _ => .str x⟩
  | _ => exact h.elim
theorem sim_tupN (hop : G.Op = OpS G.K) {t1 t2 : TE} {w1 w2 : WE} (h1 : SimE G W t1 w1) (h2 : SimE G W t2 w2) : SimE G W (tTup (tCons t1 (tCons t2 tNil))) (wTupN w1 w2) := by
  intro C Hi σ H Γ Q Qd Xd c hw hQ hX
  refine h1 C Hi σ H Γ _ _ Xd c hw (fun v1 r1 H1 Hi1 Γ1 e1 o1 q1 => ?_) hX
  obtain ⟨Hi2, e2, c2, hh⟩ := o1.hold
  obtain ⟨d1, b1, q⟩ := hh.read c2 q1
  obtain ⟨q, n1⟩ := atom_new b1 q
  have f2 := e1.trans e2
  refine h2 C Hi2 σ H1 Γ1 _ _ Xd c2 q (fun v2 r2 H3 Hi3 Γ3 e3 o3 q3 => ?_) fun x c d H' Hi' Γ' e' => hX x c d H' Hi' Γ' (f2.trans e')
  refine ⟨(by decide : 2 ≤ sizeLine), fun T hT => ?_⟩
  have fin : ∀ (s : Sl) (d2 : D) (fp : Nat → List Addr), Γ3.length = σ.length → Core G C Hi3 (σ ++ [some v2]) H3 (Γ3 ++ [s]) fp → NewT G.K Hi3 H3 v2 d2 (fp Γ3.length) → (∀ a ∈ fp Γ3.length, C.H0 a = none) → Qd (.op 15 (.tuple [d1, d2])) Γ3 → Q (.ref T) (upd H3 T (.tup [v1, v2])) := fun s d2 fp hl c3 nt h0 qd => by
    have hi : Γ3.length < (Γ3 ++ [s]).length := by simp
    have hTn : T ∉ fp Γ3.length := fun hm => by
      obtain ⟨u, hu⟩ := c3.trk hi hm
      rw [hT] at hu; cases hu
    have nt2 : NewT G.K Hi3 (upd H3 T (.tup [v1, v2])) v2 d2 (fp Γ3.length) := nt.loc (Ext.refl _) fun a ha => upd_ne fun z => hTn (z ▸ ha)
    refine hQ _ (.op 15 _) _ Hi3 Γ3 (f2.trans e3) ⟨hl, c3.newTop hl hT ⟨T, rfl, ?_, fun a ha => .inl ?_, fun q z => absurd z (by decide)⟩⟩ qd
    · rw [hop]
      refine .inr (.inr (.inr (.inr (.inl ⟨rfl, ?_⟩))))
      have := NewT.two (l1 := []) (l2 := fp Γ3.length) (p := T) upd_same (n1 Hi3 _) nt2 (by simp) hTn (by simp)
      simpa using this
    · rcases List.mem_cons.mp ha with rfl | ha
      · exact (c3.fresh hT).2
      · exact h0 a ha
  cases r2 with
  | sh d => exact q3.elim
  | vr i => exact q3.elim
  | ow d =>
    cases d with
    | list l =>
      obtain ⟨hl, fp, c3⟩ := o3
      obtain ⟨x, hx, p, hf, rfl, ow, h0⟩ := c3.sl Γ3.length (.ow (.list l)) (by simp)
      have hx : v2 = .ref p := by
        rw [hl] at hx
        simpa using hx
      subst hx
      refine fin _ (.list l) fp hl c3 ?_ (fun a ha => by rw [hf] at ha; rw [List.mem_singleton.mp ha]; exact h0) q3
      rw [hf]
      cases ow with
      | lst g r => exact .lst g r
    | _ => exact q3.elim
  | op t d =>
    obtain ⟨rfl, q3⟩ := q3
    obtain ⟨hl, fp, c3⟩ := o3
    obtain ⟨x, hx, p, rfl, ok, h0, _⟩ := c3.sl Γ3.length (.op 15 d) (by simp)
    have hx : v2 = .ref p := by
      rw [hl] at hx
      simpa using hx
    subst hx
    rw [hop] at ok
    have st := op_sta (by decide) ok
    exact fin _ d fp hl c3 st.2 (fun a ha => (h0 a ha).resolve_right fun z => absurd z.1 (by decide)) q3
theorem sim_tupD (hop : G.Op = OpS G.K) {t1 t2 : TE} {w1 w2 : WE} (h1 : SimE G W t1 w1) (h2 : SimE G W t2 w2) : SimE G W (tTup (tCons t1 (tCons t2 tNil))) (wTupD w1 w2) := by
  intro C Hi σ H Γ Q Qd Xd c hw hQ hX
  rcases hw with hw | hw
  · exact sim_tup (sim_cons h1 (sim_cons h2 sim_nil)) C Hi σ H Γ Q Qd Xd c hw hQ hX
  · exact sim_tupN hop h1 h2 C Hi σ H Γ Q Qd Xd c hw hQ hX
theorem de_tupD {X : Cx} {e1 e2 : Expr} {kk : Nat} {pos : Pos} {t1 t2 : TE} {w1 w2 : WE} (hop : G.Op = OpS G.K) (h1 : DE X G W e1 t1 w1) (h2 : DE X G W e2 t2 w2)
    (hs1 : starEach [e1, e2] X.env = (false, eval e1 X.env) :: starEach [e2] X.env := by rfl) (hs2 : starEach [e2] X.env = (false, eval e2 X.env) :: starEach [] X.env := by rfl) : DE X G W (.Tuple [e1, e2] kk pos) (tTup (tCons t1 (tCons t2 tNil))) (wTupD w1 w2) :=
  ⟨(de_tup (W := W) (da_cons h1 (da_cons h2 da_nil hs2) hs1)).pe, sim_tupD hop h1.sim h2.sim⟩
end
@[simp ↓] theorem ev_wTupN (w1 w2 : WE) (Γ : Ev) (Q : R → Ev → Prop) (X : XW) : wTupN w1 w2 Γ Q X = w1 Γ (fun r1 Γ1 => rdW r1 Γ1 fun d1 => atW d1 (w2 Γ1 (fun r2 Γ2 => newW r2 fun d2 => Q (.op 15 (.tuple [d1, d2])) Γ2) X)) X := rfl
@[simp ↓] theorem ev_wTupD (w1 w2 : WE) (Γ : Ev) (Q : R → Ev → Prop) (X : XW) : wTupD w1 w2 Γ Q X = (wTup (wCons w1 (wCons w2 wNil)) Γ Q X ∨ wTupN w1 w2 Γ Q X) := rfl
def pathL : Nat → D → Option (List D)
  | 0, .list l => some l
  | n + 1, .tuple [_, d] => pathL n d
  | _, _ => none
def tPath (K : Fg) (i : Nat) : Nat → TE
  | 0 => tVar i
  | n + 1 => tOp (rIxA K) (tPath K i n) (tC (.int 1))
section
variable {G : Gb} {W : WX} {C : Cf} {Hi H : Hp} {σ : St} {Γ : Ev} {fp : Nat → List Addr}
theorem NewT.path {K : Fg} : ∀ (n : Nat) {v : V} {d : D} {l : List Addr} {ds : List D}, NewT K Hi H v d l → pathL n d = some ds → ∃ (p : Addr) (xs : List V), p ∈ l ∧ H p = some (.lst xs) ∧ Reps K Hi xs ds ∧
    ∀ (Q : V → Hp → Prop), Q (.ref p) H → ∀ (σ : St) (i : Nat) (m : Nat), (∀ Q : V → Hp → Prop, Q v H → tPath K i m σ H Q) → tPath K i (m + n) σ H Q
  | 0, v, d, l, ds, h, e => by
    cases h with
    | lst g r => cases e; exact ⟨_, _, List.mem_singleton.mpr rfl, g, r, fun Q q σ i m t => t Q q⟩
    | _ => cases e
  | n + 1, v, d, l, ds, h, e => by
    cases h with
    | two g h1 h2 n1 n2 n3 =>
      obtain ⟨p, xs, a1, a2, a3, a4⟩ := NewT.path n h2 e
      refine ⟨p, xs, by simp [a1], a2, a3, fun Q q σ i m t => ?_⟩
      have := a4 Q q σ i (m + 1) fun Q2 q2 => t _ (.inl (.inr (.inl ⟨_, _, 1, _, rfl, rfl, SqT.of g, rfl, q2⟩)))
      rw [show m + (n + 1) = m + 1 + n by omega]
      exact this
    | _ => cases e
def wNap (n i : Nat) : WE := fun Γ Q _ => match Γ[i]? with
  | some (.op 15 d) => match pathL n d with
    | some l => l.length < sizeLine ∧ Q (.sh .none) (Γ.set i .no)
    | none => False
  | _ => False
theorem sim_nap (hop : G.Op = OpS G.K) (n i : Nat) : SimE G W (tBM G.K "list" rAppend (tPath G.K i n) (tCons (tC .non) tNil)) (wNap n i) := by
  intro C Hi σ H Γ Q Qd Xd c hw hQ hX
  unfold wNap at hw
  split at hw
  · rename_i d ei
    split at hw
    · rename_i l ep
      obtain ⟨hlt, q⟩ := hw
      obtain ⟨fp, c1⟩ := id c
      have hi := (List.getElem?_eq_some_iff.mp ei).1
      obtain ⟨x, hx, p0, rfl, ok, h0, _⟩ := c1.sl i _ ei
      rw [hop] at ok
      have st := op_sta (by decide) ok
      obtain ⟨p, xs, a1, a2, a3, a4⟩ := st.2.path n ep
      have := a4 (fun x H1 => tyV G.K "list" x H1 ∧ tCons (tC .non) tNil σ H1 fun xs H2 => rAppend x xs H2 Q) ⟨.inl ⟨rfl, xs, SqL.of a2⟩, p, xs, .non, rfl, rfl, a2, by rw [a3.length]; exact hlt, ?_⟩ σ i 0 (fun Q q => ⟨_, hx, q⟩)
      · rw [Nat.zero_add] at this
        exact this
      have hHi : Hi p = none := c1.av i p hi a1
      have c2 := c1.step (H' := upd H p (.lst (xs ++ [.non]))) (i := i) (x := some (.ref p0)) (l := []) (s := .no) hi (Ext.refl _) (fun a o h hn => by
        have z : a ≠ p := fun z => hn (by rw [z]; exact a1)
        rw [upd_ne z]; exact h) (fun a ha => by
        by_cases z : a = p
        · subst z; rw [upd_same]; simp
        · obtain ⟨u, hu⟩ := c1.trk hi ha
          rw [upd_ne z, hu]; simp) (fun a o h => by
        have z : a ≠ p := fun z => by rw [z, hHi] at h; cases h
        rw [upd_ne z]; exact c1.imm a o h) (fun a o h => .inl h) rfl (fun a ha => nomatch ha) fun j a hj _ ha => c1.av j a hj ha
      have es : σ.set i (some (.ref p0)) = σ := by
        refine List.ext_getElem? fun j => ?_
        by_cases z : i = j
        · subst z
          rw [List.getElem?_set_self (by rw [← c1.len]; exact hi), hx]
        · rw [List.getElem?_set_ne z]
      rw [es] at c2
      exact hQ _ (.sh .none) _ Hi _ (Ext.refl _) ⟨⟨_, c2⟩, .non⟩ q
    · exact hw.elim
  · exact hw.elim
theorem de_nap {X : Cx} {e0 : Expr} {kk : Nat} {p apos pos : Pos} {w0 : WE} (n : Nat) (hK : X.K = G.K) (hop : G.Op = OpS G.K) (i : Nat) (he : DE X G W e0 (tPath G.K i n) w0)
    (h1 : attributeBase e0 "append" X.env (eval e0 X.env) = eval e0 X.env := by rfl)
    (h2 : (((backTo pos (starEach ((.Constant .none kk p : Expr) :: []) X.env)).all fun x => !x.fst) && (backToKw pos (keywordEach [] X.env)).all (fun x => x.fst.isSome) && decide ((((.Constant .none kk p : Expr) :: ([] : List Expr)).length + ([] : List Keyword).length + if ([] : List Keyword).isEmpty = true then 0 else 1) < 30)) = true := by rfl)
    (h3 : (apos.endLine == pos.line) = true := by rfl) (h4 : starEach ((.Constant .none kk p : Expr) :: []) X.env = (false, eval (.Constant .none kk p) X.env) :: starEach [] X.env := by rfl) (h5 : (backTo pos (starEach [] X.env)).any (·.1) = false := by rfl) :
    DE X G W (.Call (.Attribute e0 "append" apos) [.Constant .none kk p] [] pos) (tBM G.K "list" rAppend (tPath G.K i n) (tCons (tC .non) tNil)) (wNap n i) :=
  ⟨by rw [← hK] at he ⊢; exact pe_bm PySem.F.plainAttrs_list PySem.F.slot_list_append PySem.F.type_list_append mt_append he.pe (pa_cons pe_non pa_nil h4) h1 h2 h3 h4 h5, sim_nap hop n i⟩
def slNap (n i : Nat) (Q : R → Ev → Prop) (Γ : Ev) : Sl → Prop
  | .op 15 d => match pathL n d with
    | some l => l.length < sizeLine ∧ Q (.sh .none) (Γ.set i .no)
    | none => False
  | _ => False
theorem ev_wNap (n i : Nat) (Γ : Ev) (Q : R → Ev → Prop) (X : XW) : wNap n i Γ Q X = getS Γ i (slNap n i Q Γ) := by
  rw [getS_at]
  unfold wNap
  cases e : Γ[i]? with
  | none => rfl
  | some s =>
    cases s with
    | op t d =>
      by_cases z : t = 15
      · subst z; rfl
      · have e1 : slNap n i Q Γ (.op t d) = False := by
          unfold slNap
          split
          · rename_i h; exact absurd (Sl.op.inj h).1 z
          · rfl
        have e2 : (match (some (Sl.op t d) : Option Sl) with
          | some (.op 15 d) => match pathL n d with
            | some l => l.length < sizeLine ∧ Q (.sh .none) (Γ.set i .no)
            | none => False
          | _ => False) = False := by
          split
          · rename_i h; exact absurd (Sl.op.inj (Option.some.inj h)).1 z
          · rfl
        show _ = slNap n i Q Γ (.op t d)
        rw [e1]
        exact e2
    | _ => rfl
def shS5 : Sl → Sl
  | .op t d => if t = 15 then .sh d else .no
  | s => shS s
def shE5 (Γ : Ev) : Ev := Γ.map shS5
def wFz5 (w : WE) : WE := fun Γ Q _ => w (shE5 Γ) (fun r _ => flatS r ∧ Q r Γ) fun _ _ => False
theorem Rel.frozen5 (hop : G.Op = OpS G.K) (c : Rel G C Hi σ H Γ) : Rel G ⟨H, H, fun _ => False, fun _ h => h.elim, fun _ => none⟩ H σ H (shE5 Γ) := by
  obtain ⟨fp, c1⟩ := id c
  refine ⟨fun _ => [], { frame := fun b o h _ => h, live := fun b h => h, imm := Ext.refl _, base := Ext.refl _, ov := fun b o h => .inl h, len := by rw [shE5, List.length_map]; exact c.len, sl := fun j s hs => ?_, dj := fun j k b _ _ h => (nomatch h), av := fun j b _ h => (nomatch h) }⟩
  unfold shE5 at hs
  rw [List.getElem?_map] at hs
  cases e : Γ[j]? with
  | none => rw [e] at hs; cases hs
  | some s' =>
    rw [e] at hs
    cases hs
    have ownR : ∀ (p : Addr) (d : D), Own G.K Hi H p d → Rep G.K H (.ref p) d := fun p d ow => by
      cases ow with
      | lst h r => exact .lst h (r.mono c.imm)
      | dct h r => exact .dct (.inl h) (r.mono c.imm)
    obtain ⟨x, hx1, hok⟩ := c1.sl j _ e
    cases s' with
    | no => exact ⟨x, hx1, rfl⟩
    | sh d => obtain ⟨_, v, h1, h2⟩ := hok; exact ⟨x, hx1, rfl, v, h1, h2.mono c.imm⟩
    | ow d => obtain ⟨p, h0, h1, h2, _⟩ := hok; exact ⟨x, hx1, rfl, _, h1, ownR p d h2⟩
    | io d => obtain ⟨p, h0, h1, h2, _⟩ := hok; exact ⟨x, hx1, rfl, _, h1, ownR p d h2⟩
    | op t d =>
      show ∃ x, σ[j]? = some x ∧ SlOk G _ H H x [] (if t = 15 then .sh d else .no)
      by_cases z : t = 15
      · subst z
        obtain ⟨p, h1, ok, _⟩ := hok
        rw [hop] at ok
        have st := op_sta (by decide) ok
        exact ⟨x, hx1, rfl, _, h1, st.2.rep c.imm⟩
      · rw [if_neg z]
        exact ⟨x, hx1, rfl⟩
    | two _ _ => exact hok.elim
theorem sim_fz5 (hop : G.Op = OpS G.K) {te : TE} {we : WE} (h : SimE G W te we) : SimE G W te (wFz5 we) := by
  intro C Hi σ H Γ Q Qd Xd c hw hQ hX
  refine h _ H σ H (shE5 Γ) Q _ _ (c.frozen5 hop) hw (fun v r H' Hi' Γ' e o q => ?_) fun x cl d H' Hi' Γ' e c' hx q => q.elim
  obtain ⟨f, q⟩ := q
  cases r with
  | sh d =>
    obtain ⟨c', rv⟩ := o
    obtain ⟨fp', c'⟩ := c'
    have k : Ext H H' := fun b o h => c'.frame b o h fun z => z
    exact hQ v (.sh d) H' Hi Γ (Ext.refl _) ⟨c.grow k (Ext.refl _) (c.imm.trans k) fun _ _ z => .inl z, rv.flat_any f⟩ q
  | ow d => exact f.elim
  | vr i => exact f.elim
  | op t d => exact f.elim
theorem de_fz5 {X : Cx} {e : Expr} {te : TE} {we : WE} (hop : G.Op = OpS G.K) (h : DE X G W e te we) : DE X G W e te (wFz5 we) := ⟨h.pe, sim_fz5 hop h.sim⟩
end
@[simp ↓] theorem ev_wFz5 (w : WE) (Γ : Ev) (Q : R → Ev → Prop) (X : XW) : wFz5 w Γ Q X = w (shE5 Γ) (fun r _ => flatS r ∧ Q r Γ) fun _ _ => False := rfl
@[simp ↓] theorem shE5_nil : shE5 [] = [] := rfl
@[simp ↓] theorem shE5_cons (s : Sl) (Γ : Ev) : shE5 (s :: Γ) = shS5 s :: shE5 Γ := rfl
@[simp ↓] theorem shS5_sh (d : D) : shS5 (.sh d) = .sh d := rfl
@[simp ↓] theorem shS5_ow (d : D) : shS5 (.ow d) = .sh d := rfl
@[simp ↓] theorem shS5_io (d : D) : shS5 (.io d) = .sh d := rfl
@[simp ↓] theorem shS5_no : shS5 .no = .no := rfl
@[simp ↓] theorem shS5_15 (d : D) : shS5 (.op 15 d) = .sh d := rfl
@[simp ↓] theorem shS5_11 (d : D) : shS5 (.op 11 d) = .no := rfl
@[simp ↓] theorem shS5_0 (d : D) : shS5 (.op 0 d) = .no := rfl
end VL

set_option Elab.async false
set_option linter.all false
set_option maxRecDepth 100000
set_option pp.maxSteps 600
namespace VL
open PySem L2
section
variable {G : Gb} {W : WX} {C : Cf} {Hi H : Hp} {σ : St} {Γ : Ev} {fp : Nat → List Addr}
theorem Core.lift {i : Nat} {x : Option V} {s : Sl} (c : Core G C Hi σ H Γ fp) (hs : Γ[i]? = some s) (hx : σ[i]? = some x) : Rel G C Hi (σ ++ [x]) H (Γ.set i .no ++ [s]) := by
  have hi : i < Γ.length := (List.getElem?_eq_some_iff.mp hs).1
  obtain ⟨x', hx', ok⟩ := c.sl i s hs
  rw [hx] at hx'; cases hx'
  have es : σ.set i x = σ := by
    refine List.ext_getElem? fun j => ?_
    by_cases z : i = j
    · subst z
      rw [List.getElem?_set_self (by rw [← c.len]; exact hi), hx]
    · rw [List.getElem?_set_ne z]
  have c1 := c.put (x := x) (l := []) (s := .no) hi rfl fun a ha => nomatch ha
  rw [es] at c1
  have c2 := c1.push (x := x) (l := []) (s := .no) (Ext.refl _) rfl fun a ha => nomatch ha
  have hl : (Γ.set i .no).length = Γ.length := List.length_set
  have c3 := c2.put (i := Γ.length) (x := x) (l := fp i) (s := s) (by rw [List.length_append, hl]; simp) ok fun a ha => ⟨c.av i a hi ha, fun j hj hne hm => by
    rw [List.length_append, hl] at hj
    have hj : j < Γ.length + 1 := hj
    rw [hl] at hm
    rw [if_neg hne] at hm
    by_cases z : j = i
    · rw [if_pos z] at hm; cases hm
    · rw [if_neg z] at hm
      exact z (c.dj j i a (by omega) hi hm ha)⟩
  have e1 : (σ ++ [x]).set Γ.length x = σ ++ [x] := by rw [c.len]; simp
  have e2 : (Γ.set i .no ++ [Sl.no]).set Γ.length s = Γ.set i .no ++ [s] := by
    have := hl
    rw [List.set_append_right _ _ (by omega), hl, Nat.sub_self]
    rfl
  rw [e1, e2] at c3
  exact ⟨_, c3⟩
def wOwn (we : WE) : WE := fun Γ Q X => we Γ (fun r Γ1 => retW r Γ1 Q) X
theorem sim_own {t : TE} {w : WE} (h : SimE G W t w) : SimE G W t (wOwn w) := by
  intro C Hi σ H Γ Q Qd Xd c hw hQ hX
  refine h C Hi σ H Γ _ _ Xd c hw (fun v r H1 Hi1 Γ1 e1 o1 q => ?_) hX
  cases r with
  | sh d => exact hQ v (.sh d) H1 Hi1 Γ1 e1 o1 q
  | ow d => exact hQ v (.ow d) H1 Hi1 Γ1 e1 o1 q
  | op t d => exact hQ v (.op t d) H1 Hi1 Γ1 e1 o1 q.2
  | vr i =>
    obtain ⟨⟨fp, c1⟩, hv⟩ := o1
    unfold retW at q
    dsimp only at q
    split at q
    · rename_i d e
      obtain ⟨w, h1, h2⟩ := Rel.at_sh ⟨fp, c1⟩ e
      rw [hv] at h1; cases h1
      exact hQ v (.sh d) H1 Hi1 Γ1 e1 ⟨⟨fp, c1⟩, h2⟩ q
    · rename_i d e
      exact hQ v (.ow d) H1 Hi1 _ e1 ⟨by rw [List.length_set]; exact c1.len, c1.lift e hv⟩ q
    · rename_i t d e
      exact hQ v (.op t d) H1 Hi1 _ e1 ⟨by rw [List.length_set]; exact c1.len, c1.lift e hv⟩ q.2
    · exact q.elim
theorem de_own {X : Cx} {e : Expr} {te : TE} {we : WE} (h : DE X G W e te we) : DE X G W e te (wOwn we) := ⟨h.pe, sim_own h.sim⟩
def newS (d : D) (k : Sl → Prop) : Prop := match d with
  | .list l => k (.ow (.list l))
  | .tuple l => k (.op 15 (.tuple l))
  | _ => False
def asg5 (i j : Nat) (r : R) (Γ : Ev) (k : Ev → Prop) : Prop := match r with
  | .op t (.tuple [d1, d2]) => t = 15 ∧ i < Γ.length ∧ atW d1 (newS d2 fun s => k ((Γ.set i (.sh d1)).set j s))
  | .op _ _ => False
  | r => frW r Γ fun d Γ2 => wgTup 2 (wgCons (wgName i) (wgCons (wgName j) wgNil)) d Γ2 k
def wAsg5 (i j : Nat) (we : WE) : WS := fun Γ D X => we Γ (fun r Γ1 => asg5 i j r Γ1 D.nx) X
theorem sim_asg5 (hop : G.Op = OpS G.K) (i j : Nat) {t : TE} {w : WE} (h : SimE G W t w) : SimS G W (tAsg t (gTup G.K 2 (gCons (gName i) (gCons (gName j) gNil)))) (wAsg5 i j w) := by
  intro C Hi σ H Γ Dn Dd Xd c hw h1 _ _ _ h5
  refine h C Hi σ H Γ _ _ Xd c hw (fun v r H1 Hi1 Γ1 e1 o1 q => ?_) fun x c d => h5 x c d σ
  have sg := simg_tup (G := G) (n := 2) (simg_cons (simg_name i) (simg_cons (simg_name j) simg_nil))
  have plain : ∀ (q : frW r Γ1 fun d Γ2 => wgTup 2 (wgCons (wgName i) (wgCons (wgName j) wgNil)) d Γ2 Dd.nx), gTup G.K 2 (gCons (gName i) (gCons (gName j) gNil)) v σ H1 Dn.nx := fun q => by
    obtain ⟨d, Hi2, Γ2, e2, c2, r2, q2⟩ := o1.share q
    exact sg C Hi2 σ H1 Γ2 v d _ _ c2 r2 q2 fun σ' Γ' c' q' => h1 σ' H1 Hi2 Γ' (e1.trans e2) c' q'
  unfold asg5 at q
  split at q
  · rename_i t d1 d2
    obtain ⟨rfl, hi, q⟩ := q
    obtain ⟨hl, fp, c3⟩ := o1
    obtain ⟨x, hx, p, rfl, ok, h0, _⟩ := c3.sl Γ1.length (.op 15 (.tuple [d1, d2])) (by simp)
    have hx : v = .ref p := by
      rw [hl] at hx
      simpa using hx
    subst hx
    rw [hop] at ok
    have st := (op_sta (by decide) ok).2
    have hk : Γ1.length < (Γ1 ++ [Sl.op 15 (.tuple [d1, d2])]).length := by simp
    have av := fun a => c3.av Γ1.length a hk
    have dj := fun a (ha : a ∈ fp Γ1.length) k (hk2 : k < (Γ1 ++ [Sl.op 15 (.tuple [d1, d2])]).length) (hne : k ≠ Γ1.length) (hm : a ∈ fp k) => hne (c3.dj k _ a hk2 hk hm ha)
    generalize hfp : fp Γ1.length = F at st av dj h0
    cases st with
    | two g n1 n2 m1 m2 m3 =>
    rename_i v1 v2 l1 l2
    have a1 : l1 = [] ∧ Rep G.K Hi1 v1 d1 := by
      cases n1 with
      | int z => exact ⟨rfl, .int z⟩
      | str z => exact ⟨rfl, .str z⟩
      | lst _ _ => exact q.elim
      | two _ _ _ _ _ _ => exact q.elim
    obtain ⟨rfl, r1⟩ := a1
    have qq : newS d2 fun s => Dd.nx ((Γ1.set i (.sh d1)).set j s) := by
      cases n1 with
      | int z => exact q
      | str z => exact q
    have fin : ∀ s, SlOk G C Hi1 H1 (some v2) l2 s → Dd.nx ((Γ1.set i (.sh d1)).set j s) → gTup G.K 2 (gCons (gName i) (gCons (gName j) gNil)) (.ref p) σ H1 Dn.nx := fun s sok q => by
      have c4 := c3.put (x := some v2) (l := l2) (s := s) hk sok fun a ha => ⟨av a (by simp [ha]), fun k hk2 hne hm => dj a (by simp [ha]) k hk2 hne hm⟩
      have e1' : (σ ++ [some (V.ref p)]).set Γ1.length (some v2) = σ ++ [some v2] := by rw [hl]; simp
      have e2 : (Γ1 ++ [Sl.op 15 (.tuple [d1, d2])]).set Γ1.length s = Γ1 ++ [s] := by simp
      rw [e1', e2] at c4
      have c5 := Rel.setSh (i := i) ⟨_, c4⟩ r1
      rw [List.set_append_left _ _ (by omega), List.set_append_left _ _ (by omega)] at c5
      have c6 := c5.setOw (i := j) (by rw [List.length_set, List.length_set]; exact hl)
      exact ⟨_, _, rfl, SqT.of g, rfl, ⟨_, _, rfl, _, _, rfl, rfl, h1 _ H1 Hi1 _ e1 c6 q⟩⟩
    cases n2 with
    | int z => exact qq.elim
    | str z => exact qq.elim
    | lst g2 r2 => exact fin (.ow (.list _)) ⟨_, rfl, rfl, .lst g2 r2, (h0 _ (by simp)).resolve_right fun z => absurd z.1 (by decide)⟩ qq
    | two g2 n3 n4 k1 k2 k3 =>
      refine fin (.op 15 (.tuple _)) ⟨_, rfl, ?_, fun a ha => .inl ((h0 a (by simp at ha ⊢; exact .inr ha)).resolve_right fun z => absurd z.1 (by decide)), fun q z => absurd z (by decide)⟩ qq
      rw [hop]
      exact .inr (.inr (.inr (.inr (.inl ⟨rfl, .two g2 n3 n4 k1 k2 k3⟩))))
  · exact q.elim
  · exact plain q
theorem ds_asg5 {X : Cx} {tg e : Expr} {te : TE} {we : WE} {wg : WG} {pos : Pos} (hop : G.Op = OpS G.K) (i j : Nat) (he : DE X G W e te we) (hg : DG X G tg (gTup G.K 2 (gCons (gName i) (gCons (gName j) gNil))) wg) (hs : swapsWithSole [tg] e pos.line X.env = pure false := by rfl) (hw : swappedStores [tg] e X.env = pure none := by rfl) (ha : (assignEach [tg] X.env).map (·.2) = [assign tg X.env] := by rfl) :
    DS X G W (.Assign [tg] e pos) (tAsg te (gTup G.K 2 (gCons (gName i) (gCons (gName j) gNil)))) (wAsg5 i j we) := ⟨ps_asg he.pe hg.pe hs hw ha, sim_asg5 hop i j he.sim⟩
def wNotNV (i : Nat) : WE := fun Γ Q _ => match Γ[i]? with
  | some s => slNone s fun b => Q (.sh (.bool (!b))) Γ
  | none => False
theorem sim_notNV (i : Nat) : SimE G W (tOp (fun x y H Q => y = .non ∧ Q (.bl (!decide (x = .non))) H) (tVar i) (tC .non)) (wNotNV i) := by
  intro C Hi σ H Γ Q Qd Xd c hw hQ hX
  unfold wNotNV at hw
  cases hs : Γ[i]? with
  | none => rw [hs] at hw; exact hw.elim
  | some s =>
    rw [hs] at hw
    cases s with
    | sh d =>
      obtain ⟨v, h1, h2⟩ := c.at_sh hs
      refine ⟨v, h1, rfl, ?_⟩
      rw [rdb_none (H := H) (.inl h2)]
      exact hQ _ _ H Hi Γ (Ext.refl _) (out_bl c _) hw
    | op t d =>
      obtain ⟨fp, c0⟩ := id c
      obtain ⟨x, hx, p, rfl, _⟩ := c0.sl i _ hs
      refine ⟨_, hx, rfl, ?_⟩
      rw [decide_eq_false (fun z => nomatch z)]
      exact hQ _ _ H Hi Γ (Ext.refl _) (out_bl c _) hw
    | no => exact hw.elim
    | ow d => exact hw.elim
    | io d => exact hw.elim
    | two _ _ => exact hw.elim
theorem dt_notNV {X : Cx} {x : Str} {j : Nat} {p p2 pos : Pos} (i : Nat) (hN : X.N[i]? = some x := by rfl) (hv : Vis X.env.scope x := by first | exact Or.inl rfl | exact Or.inr (Or.inl rfl) | exact Or.inr (Or.inr rfl)) (hd : (x == ("__debug__" : Str)) = false := by decide) (hcd : (x == ("__classdict__" : Str)) = false := by decide) :
    DT X G W (.Compare (.Name x p) [.IsNot] [.Constant .none j p2] pos) (tTest (tOp (fun x y H Q => y = .non ∧ Q (.bl (!decide (x = .non))) H) (tVar i) (tC .non))) (wT (wNotNV i)) :=
  ⟨pt_cmpR op_notN (pe_var hN hv hd hcd) pe_non (nobehind _ (by decide) (by decide)), sim_tTest (sim_notNV i)⟩
def wListR (we : WE) : WE := fun Γ Q X => we Γ (fun r Γ1 => rdW r Γ1 fun d => isI d fun n => 0 ≤ n ∧ n ≤ 16777216 ∧ Q (.ow (.list (rangeD 0 n.toNat))) Γ1) X
theorem reps_rg (K : Fg) (Hi : Hp) : ∀ (us : List Nat), Reps K Hi (us.map fun i => V.int (0 + ((i : Nat) : Int))) (us.map fun i => PyData.int (0 + ((i : Nat) : Int)))
  | [] => .nil
  | _ :: us => .cons (.int _) (reps_rg K Hi us)
theorem sim_listR {te : TE} {we : WE} (h : SimE G W te we) : SimE G W (tLstRg (tRg1 te)) (wListR we) := by
  intro C Hi σ H Γ Q Qd Xd c hw hQ hX
  refine h C Hi σ H Γ _ _ Xd c hw (fun v r H1 Hi1 Γ1 e1 o1 q => ?_) hX
  obtain ⟨Hi2, e2, c2, h2⟩ := o1.hold
  obtain ⟨d, b1, q⟩ := h2.read c2 q
  cases d with
  | int n =>
    obtain ⟨q1, q2, q⟩ := q
    refine ⟨n, b1.int, RgOk.of_le (by omega) (by omega) (by omega) (by omega), fun p hp => ?_⟩
    have : (n - 0).toNat = n.toNat := by omega
    unfold rgV
    rw [this]
    exact hQ _ _ _ _ Γ1 (e1.trans e2) (Out.newL c2 hp (reps_rg G.K Hi2 _)) q
  | _ => exact q.elim
theorem de_listR {X : Cx} {e : Expr} {p p2 pos pos2 : Pos} {te : TE} {we : WE} (hc : X.calm = true) (hm : X.mg "list" = none) (hm2 : X.mg "range" = none) (h : DE X G W e te we) (hg : Gl X "list" := by rfl) (hg2 : Gl X "range" := by rfl)
    (na : starEach [e] X.env = (false, eval e X.env) :: starEach [] X.env := by rfl) (nb : starEach [(.Call (.Name "range" p2) [e] [] pos2 : Expr)] X.env = (false, eval (.Call (.Name "range" p2) [e] [] pos2) X.env) :: starEach [] X.env := by rfl) :
    DE X G W (.Call (.Name "list" p) [.Call (.Name "range" p2) [e] [] pos2] [] pos) (tLstRg (tRg1 te)) (wListR we) :=
  ⟨pe_listRg hc hg hm (prg_1 hg2 hm2 h.pe na) nb, sim_listR h.sim⟩
end
@[simp ↓] theorem ev_wOwn (we : WE) (Γ : Ev) (Q : R → Ev → Prop) (X : XW) : wOwn we Γ Q X = we Γ (fun r Γ1 => retW r Γ1 Q) X := rfl
@[simp ↓] theorem newS_list (l : List D) (k : Sl → Prop) : newS (.list l) k = k (.ow (.list l)) := rfl
@[simp ↓] theorem newS_tup (l : List D) (k : Sl → Prop) : newS (.tuple l) k = k (.op 15 (.tuple l)) := rfl
@[simp ↓] theorem asg5_op (i j t : Nat) (d1 d2 : D) (Γ : Ev) (k : Ev → Prop) : asg5 i j (.op t (.tuple [d1, d2])) Γ k = (t = 15 ∧ i < Γ.length ∧ atW d1 (newS d2 fun s => k ((Γ.set i (.sh d1)).set j s))) := rfl
@[simp ↓] theorem asg5_sh (i j : Nat) (d : D) (Γ : Ev) (k : Ev → Prop) : asg5 i j (.sh d) Γ k = wgTup 2 (wgCons (wgName i) (wgCons (wgName j) wgNil)) d Γ k := rfl
@[simp ↓] theorem asg5_ow (i j : Nat) (d : D) (Γ : Ev) (k : Ev → Prop) : asg5 i j (.ow d) Γ k = wgTup 2 (wgCons (wgName i) (wgCons (wgName j) wgNil)) d Γ k := rfl
@[simp ↓] theorem asg5_vr (i j m : Nat) (Γ : Ev) (k : Ev → Prop) : asg5 i j (.vr m) Γ k = frW (.vr m) Γ fun d Γ2 => wgTup 2 (wgCons (wgName i) (wgCons (wgName j) wgNil)) d Γ2 k := rfl
@[simp ↓] theorem ev_wAsg5 (i j : Nat) (we : WE) (Γ : Ev) (D : WD) (X : XW) : wAsg5 i j we Γ D X = we Γ (fun r Γ1 => asg5 i j r Γ1 D.nx) X := rfl
@[simp ↓] theorem ev_wNotNV (i : Nat) (Γ : Ev) (Q : R → Ev → Prop) (X : XW) : wNotNV i Γ Q X = getS Γ i fun s => slNone s fun b => Q (.sh (.bool (!b))) Γ := by
  rw [getS_at]
  unfold wNotNV
  cases Γ[i]? <;> rfl
@[simp ↓] theorem ev_wListR (we : WE) (Γ : Ev) (Q : R → Ev → Prop) (X : XW) : wListR we Γ Q X = we Γ (fun r Γ1 => rdW r Γ1 fun d => isI d fun n => 0 ≤ n ∧ n ≤ 16777216 ∧ Q (.ow (.list (rangeD 0 n.toNat))) Γ1) X := rfl
end VL

set_option Elab.async false
set_option linter.all false
set_option maxRecDepth 100000
set_option maxHeartbeats 2000000
namespace SC
open PySem PySem.Spec PyProof.Rows L2

section
variable {X : Cx}
end
end SC

set_option Elab.async false
set_option linter.all false
set_option maxRecDepth 100000
namespace VL
open PySem L2
variable {X : Cx} {G : Gb}
end VL

set_option Elab.async false
set_option linter.all false
set_option maxRecDepth 100000
namespace SC
open PySem L2 VL

theorem small {n : Nat} (h : n ≤ 1000000) : n < sizeLine := by rw [sizeLine_eq]; omega
theorem smallE {n : Nat} (h : n ≤ 1000000) : n ≤ sizeLine := by rw [sizeLine_eq]; omega

def isIntD (v : D) (lo : Int) (hi : D) : Bool := match v with
  | .int i => decide (lo ≤ i) && (match hi with
    | .int h => decide (i ≤ h)
    | _ => true)
  | _ => false
def fs_is_integer : FS := fun io ds Q _ => io = none ∧ ∃ (v : D) (lo : Int) (hi : D), ds = [v, .int lo, hi] ∧ (hi = .none ∨ ∃ h, hi = .int h) ∧ Q (.sh (.bool (isIntD v lo hi))) none
def w_is_integer : WS := wSeq (wIfS (wOr (wNot (wT (wIsi "int" (wVar 0)))) (wOr (wT (wIsi "bool" (wVar 0))) (wT (wOp (oIB fun i j => decide (i < j)) (wVar 0) (wVar 1))))) (wRet (wC (.bool false))) (wNext)) (wRet (wOrV (wOp oIsN (wVar 2) (wC .none)) (wOp (oIB fun i j => decide (i ≤ j)) (wVar 0) (wVar 2))))
theorem fv_is_integer : FnV fs_is_integer 3 w_is_integer := by
  rintro io ds Q X ⟨rfl, v, lo, hi, rfl, hh, q⟩
  show w_is_integer [.sh v, .sh (.int lo), .sh hi] _ _
  cases v with
  | int i =>
    by_cases h : i < lo
    · have : isIntD (.int i) lo hi = false := by simp [isIntD]; intro h2; omega
      rw [this] at q
      simp [w_is_integer, isT, h, q]
    · rcases hh with rfl | ⟨z, rfl⟩
      · have : isIntD (.int i) lo .none = true := by simp [isIntD]; omega
        rw [this] at q
        simp [w_is_integer, isT, h, q]
      · have : isIntD (.int i) lo (.int z) = decide (i ≤ z) := by simp [isIntD]; omega
        rw [this] at q
        simp [w_is_integer, isT, h, q]
  | _ =>
    simp [w_is_integer, isT]
    simpa [isIntD] using q

abbrev letters : Str := "abcdefghijklmnopqrstuvwxyz"
def letter (c : Nat) : Bool := decide (c ∈ letters.cps.toList)
def nameB (s : Str) : Bool := decide (1 ≤ s.length) && decide (s.length ≤ 8) && s.cps.toList.all letter
def fs_is_name : FS := fun io ds Q _ => io = none ∧ ∃ s : Str, ds = [.str s] ∧ nameB s = true ∧ Q (.sh (.bool true)) none
def w_is_name : WS := wSeq (wIfS (wOr (wNot (wT (wIsi "str" (wVar 0)))) (wNot (wT (wChain (oIB fun i j => decide (i ≤ j)) (oIB fun i j => decide (i ≤ j)) (wC (.int 1)) (wCB (o1 oLen) (wCons (wVar 0) (wNil))) (wC (.int 8)))))) (wRet (wC (.bool false))) (wNext)) (wRet (wCB (o1 oAll) (wCons (wLc [1] (wiS (wVar 0)) (wgName 1) (wYes) (wOp (oIn false) (wVar 1) (wC (.str "abcdefghijklmnopqrstuvwxyz")))) (wNil))))
theorem lc_name (z : D) (k : List D → Ev → Prop) : ∀ (cs : List Nat) (n : Nat), cs.all letter = true → n + cs.length ≤ 1000 → k (List.replicate (n + cs.length) (.bool true)) [.sh z, .no] →
    lcW [1] (wgName 1) wYes (wOp (oIn false) (wVar 1) (wC (.str "abcdefghijklmnopqrstuvwxyz"))) k (cs.map fun c => .str ⟨#[c]⟩) (List.replicate n (.bool true)) [.sh z, .no]
  | [], n, _, _, q => by simpa [lcW] using q
  | c :: cs, n, ha, hn, q => by
    rw [List.all_cons, Bool.and_eq_true] at ha
    rw [List.length_cons] at hn q
    have h1 : decide (c ∈ letters.cps.toList) = true := ha.1
    have ih := lc_name z k cs (n + 1) ha.2 (by omega) (by rw [show n + 1 + cs.length = n + (cs.length + 1) by omega]; exact q)
    rw [List.replicate_succ'] at ih
    rw [List.map_cons]
    unfold lcW
    simp only [ev_wgName, List.set_cons_succ, List.set_cons_zero, ev_wYes, ev_wOp, ev_wVar, getS_0, getS_s, slVar_sh, ev_wC, ev_rd_sh, if_true]
    rw [ev_in_str, ev_isS]
    refine ⟨c, rfl, ?_⟩
    rw [if_neg Bool.false_ne_true, h1]
    simp only [ev_fr_sh, List.length_replicate]
    exact ⟨small (by omega), ih⟩
theorem fv_is_name : FnV fs_is_name 2 w_is_name := by
  rintro io ds Q X ⟨rfl, s, rfl, hs, q⟩
  show w_is_name [.sh (.str s), .no] _ _
  unfold nameB at hs
  rw [Bool.and_eq_true, Bool.and_eq_true] at hs
  obtain ⟨⟨h1, h2⟩, h3⟩ := hs
  have h1 := of_decide_eq_true h1
  have h2 := of_decide_eq_true h2
  have e1 : (1 : Int) ≤ (s.length : Int) := by omega
  have e2 : (s.length : Int) ≤ 8 := by omega
  simp only [w_is_name, ev_wSeq, ev_wIfS, ev_wOr, ev_wNot, ev_wT, ev_wIsi, ev_wVar, getS_0, getS_s, slVar_sh, ev_rd_sh, tyN_str, isT_self, ev_isB, Bool.not_true, Bool.false_eq_true, if_false, ev_wChain, ev_wC, ev_wCB, ev_wCons, ev_wNil, ev_rdAll_cons, ev_rdAll_nil, ev_o1, ev_len_s, ev_oIB, e1, e2, decide_true, if_true, ev_wNext, ev_wRet, ev_wLc, ev_wiS, ev_isS]
  refine ⟨smallE (by omega), ⟨trivial, trivial⟩, ?_⟩
  refine lc_name _ _ s.cps.toList 0 h3 (by have : s.cps.toList.length = s.length := by simp [Str.length]
                                           omega) ?_
  simp only [ev_rd_ow]
  refine ⟨List.replicate (0 + s.cps.toList.length) true, by simp, ?_⟩
  have : (List.replicate (0 + s.cps.toList.length) true).all id = true := by simp
  rw [this]
  exact ⟨trivial, q⟩
end SC

set_option Elab.async false
set_option linter.all false
set_option maxRecDepth 100000
namespace SC
open PySem L2 VL

inductive It where
  | bar (n : Str)
  | mark (n : Str)
  | rep (n : Str) (c : Int)
def It.d : It → D
  | .bar n => .tuple [.str "bar", .str n]
  | .mark n => .tuple [.str "mark", .str n]
  | .rep n c => .tuple [.str "repeat", .str n, .int c]
def sc (l : List It) : List D := l.map It.d
def ok : List Str → List It → Prop
  | _, [] => True
  | ms, .bar n :: r => nameB n = true ∧ ok ms r
  | ms, .mark n :: r => nameB n = true ∧ n ∉ ms ∧ ok (n :: ms) r
  | ms, .rep n c :: r => nameB n = true ∧ n ∈ ms ∧ (1 ≤ c ∧ c < 2 ^ 31) ∧ ok ms r

theorem eqv_str (x y : Str) : PyData.eqv (.str x) (.str y) = (x == y) := by simp only [PyData.eqv]
theorem eqv_int (x y : Int) : PyData.eqv (.int x) (.int y) = (x == y) := by simp only [PyData.eqv]
theorem shaped_str {x : Str} (h : PyData.strOk x = true) : SeqAt.shaped (.str x) = true := by simp [SeqAt.shaped, PyData.canLay0, PyData.depth, h]
theorem sh_bar : SeqAt.shaped (.str "bar") = true := shaped_str (by decide +kernel)
theorem sh_mark : SeqAt.shaped (.str "mark") = true := shaped_str (by decide +kernel)
theorem sh_rep : SeqAt.shaped (.str "repeat") = true := shaped_str (by decide +kernel)
theorem shaped_int (x : Int) : SeqAt.shaped (.int x) = true := by simp [SeqAt.shaped, PyData.canLay0, PyData.depth]
theorem bb : (("bar" : Str) == ("bar" : Str)) = true := by decide
theorem bm : (("bar" : Str) == ("mark" : Str)) = false := by decide
theorem br : (("bar" : Str) == ("repeat" : Str)) = false := by decide
theorem mb : (("mark" : Str) == ("bar" : Str)) = false := by decide
theorem mm : (("mark" : Str) == ("mark" : Str)) = true := by decide
theorem mr : (("mark" : Str) == ("repeat" : Str)) = false := by decide
theorem rb : (("repeat" : Str) == ("bar" : Str)) = false := by decide
theorem rm : (("repeat" : Str) == ("mark" : Str)) = false := by decide
theorem rr : (("repeat" : Str) == ("repeat" : Str)) = true := by decide

def okI (ps : List (D × D)) : It → Prop
  | .bar n => nameB n = true
  | .mark n => nameB n = true ∧ dget ps (.str n) = none
  | .rep n c => nameB n = true ∧ (dget ps (.str n)).isSome = true ∧ 1 ≤ c
def fs_is_item : FS := fun io ds Q _ => io = none ∧ ∃ (it : It) (ps : List (D × D)), ds = [it.d, .dict ps] ∧ okI ps it ∧ Q (.sh (.bool true)) none
def w_is_item : WS := wSeq (wIfS (wOr (wNot (wT (wIsi "tuple" (wVar 0)))) (wOr (wT (wOp (oIn true) (wCB (o1 oLen) (wCons (wVar 0) (wNil))) (wTup (wCons (wC (.int 2)) (wCons (wC (.int 3)) (wNil)))))) (wNot (wT (wCall fs_is_name [] (wCons (wOp oIx (wVar 0) (wC (.int 1))) (wNil))))))) (wRet (wC (.bool false))) (wNext)) (wSeq (wIfS (wT (wOp oEq (wCB (o1 oLen) (wCons (wVar 0) (wNil))) (wC (.int 3)))) (wRet (wAndV (wOp oEq (wOp oIx (wVar 0) (wC (.int 0))) (wC (.str "repeat"))) (wAndV (wOp (oIn false) (wOp oIx (wVar 0) (wC (.int 1))) (wVar 1)) (wCall fs_is_integer [.none] (wCons (wOp oIx (wVar 0) (wC (.int 2))) (wCons (wC (.int 1)) (wNil))))))) (wNext)) (wRet (wOrV (wOp oEq (wOp oIx (wVar 0) (wC (.int 0))) (wC (.str "bar"))) (wAndV (wOp oEq (wOp oIx (wVar 0) (wC (.int 0))) (wC (.str "mark"))) (wOp (oIn true) (wOp oIx (wVar 0) (wC (.int 1))) (wVar 1))))))
theorem fv_is_item : FnV fs_is_item 2 w_is_item := by
  rintro io ds Q X ⟨rfl, it, ps, rfl, h, q⟩
  show w_is_item [.sh it.d, .sh (.dict ps)] _ _
  cases it with
  | bar n =>
    simp [w_is_item, It.d, ev_in_tup, flatD, eqv_int, eqv_str, sh_bar, sh_mark, sh_rep, shaped_int, bb, bm, br, mb, mm, mr, rb, rm, rr]
    refine ⟨rfl, n, rfl, h, ?_⟩
    simpa using q
  | mark n =>
    simp [w_is_item, It.d, ev_in_tup, flatD, eqv_int, eqv_str, sh_bar, sh_mark, sh_rep, shaped_int, bb, bm, br, mb, mm, mr, rb, rm, rr]
    refine ⟨rfl, n, rfl, h.1, ?_⟩
    simp [ev_in_dict, h.2]
    simpa [mb] using q
  | rep n c =>
    simp [w_is_item, It.d, ev_in_tup, flatD, eqv_int, eqv_str, sh_bar, sh_mark, sh_rep, shaped_int, bb, bm, br, mb, mm, mr, rb, rm, rr]
    refine ⟨rfl, n, rfl, h.1, ?_⟩
    simp [ev_in_dict, h.2.1, rr]
    refine ⟨rfl, .int c, 1, .none, rfl, .inl rfl, ?_⟩
    have : isIntD (.int c) 1 .none = true := by simp [isIntD]; exact h.2.2
    rw [this]
    exact q

def fs_is_score : FS := fun io ds Q _ => io = none ∧ ∃ l : List It, ds = [.list (sc l)] ∧ ok [] l ∧ l.length ≤ 1000 ∧ Q (.sh (.bool true)) none
def w_is_score : WS := wSeq (wIfS (wNot (wT (wIsi "list" (wVar 0)))) (wRet (wC (.bool false))) (wNext)) (wSeq (wSet 1 (wDict0)) (wSeq (wFor (wiA enumD (wCons (wVar 0) (wNil))) (wgTup 2 (wgCons (wgName 2) (wgCons (wgName 3) (wgNil)))) (wSeq (wIfS (wNot (wT (wCallB fs_is_item [] (wCons (wVar 3) (wCons (wVar 1) (wNil)))))) (wRet (wC (.bool false))) (wNext)) (wIfS (wT (wOp oEq (wOp oIx (wVar 3) (wC (.int 0))) (wC (.str "mark")))) (wDPut 1 (wOp oIx (wVar 3) (wC (.int 1))) (wVar 2)) (wNext)))) (wRet (wC (.bool true)))))
theorem keyEq_iff (d : D) (k : Key) : keyEq d (kD k) = true ↔ d = kD k := by
  cases k <;> cases d <;> simp [keyEq, kD]
theorem kD_inj {k k' : Key} (h : kD k = kD k') : k = k' := by
  cases k <;> cases k' <;> simp [kD] at h <;> simp [h]
theorem dget_put (ps : List (D × D)) (k k' : Key) (v : D) : dget (dput ps (kD k) v) (kD k') = if k = k' then some v else dget ps (kD k') := by
  unfold dput
  by_cases ha : (ps.any fun p => keyEq p.1 (kD k)) = true
  · rw [if_pos ha]
    unfold dget
    rw [List.find?_map]
    have e : ((fun p : D × D => keyEq p.1 (kD k')) ∘ fun p : D × D => if keyEq p.1 (kD k) = true then (p.1, v) else p) = fun p : D × D => keyEq p.1 (kD k') := by
      funext p
      show keyEq (if keyEq p.1 (kD k) = true then (p.1, v) else p).1 (kD k') = keyEq p.1 (kD k')
      split <;> rfl
    rw [e]
    cases hf : ps.find? fun p => keyEq p.1 (kD k') with
    | none =>
      by_cases hk : k = k'
      · subst hk
        obtain ⟨p, hp, h1⟩ := List.any_eq_true.mp ha
        have := List.find?_eq_none.mp hf p hp
        exact absurd h1 this
      · rw [if_neg hk]; rfl
    | some p =>
      have hp := List.find?_some hf
      have e2 := (keyEq_iff _ _).mp hp
      by_cases hk : k = k'
      · subst hk
        rw [if_pos rfl]
        simp [hp]
      · rw [if_neg hk]
        have : ¬ keyEq p.1 (kD k) = true := fun z => hk (kD_inj (((keyEq_iff _ _).mp z).symm.trans e2))
        simp [this]
  · rw [if_neg ha]
    unfold dget
    rw [List.find?_append]
    by_cases hk : k = k'
    · subst hk
      rw [if_pos rfl]
      have : (ps.find? fun p => keyEq p.1 (kD k)) = none := List.find?_eq_none.mpr fun p hp z => ha (List.any_eq_true.mpr ⟨p, hp, z⟩)
      rw [this]
      have h1 : keyEq (kD k) (kD k) = true := (keyEq_iff _ _).mpr rfl
      simp [h1]
    · rw [if_neg hk]
      have h1 : keyEq (kD k) (kD k') = false := by
        cases q : keyEq (kD k) (kD k') with
        | false => rfl
        | true => exact absurd (kD_inj ((keyEq_iff _ _).mp q)) hk
      simp [h1]
theorem dget_putS (ps : List (D × D)) (x y : Str) (v : D) : dget (dput ps (.str x) v) (.str y) = if x = y then some v else dget ps (.str y) := by
  have := dget_put ps (.inr x) (.inr y) v
  rw [show (kD (.inr x)) = .str x from rfl, show (kD (.inr y)) = .str y from rfl] at this
  rw [this]
  by_cases h : x = y
  · subst h; simp
  · rw [if_neg h, if_neg fun z => h (Sum.inr.inj z)]
theorem dget_putI (ps : List (D × D)) (x y : Int) (v : D) : dget (dput ps (.int x) v) (.int y) = if x = y then some v else dget ps (.int y) := by
  have := dget_put ps (.inl x) (.inl y) v
  rw [show (kD (.inl x)) = .int x from rfl, show (kD (.inl y)) = .int y from rfl] at this
  rw [this]
  by_cases h : x = y
  · subst h; simp
  · rw [if_neg h, if_neg fun z => h (Sum.inl.inj z)]
theorem dput_len (ps : List (D × D)) (k v : D) : (dput ps k v).length ≤ ps.length + 1 := by
  unfold dput
  split <;> simp
def Marks (ps : List (D × D)) (ms : List Str) : Prop := ∀ n, (dget ps (.str n)).isSome = decide (n ∈ ms)
theorem Marks.put {ps : List (D × D)} {ms : List Str} (h : Marks ps ms) (n : Str) (v : D) : Marks (dput ps (.str n) v) (n :: ms) := by
  intro m
  rw [dget_putS]
  by_cases e : n = m
  · subst e; simp
  · rw [if_neg e, h m]
    have : ¬ m = n := fun z => e z.symm
    simp [this]
def enumF : Nat → List D → List D
  | _, [] => []
  | n, d :: r => .tuple [.int (n : Int), d] :: enumF (n + 1) r
theorem enumF_eq : ∀ (n : Nat) (l : List D), enumF n l = l.mapIdx fun (i : Nat) d => PyData.tuple [.int ((i + n : Nat) : Int), d]
  | _, [] => rfl
  | n, d :: r => by
    rw [enumF, enumF_eq (n + 1) r, List.mapIdx_cons]
    congr 1
    · simp
    · congr 1
      funext i e
      congr 3
      omega
theorem enumD_eq (l : List D) : enumD l = enumF 0 l := by rw [enumF_eq]; rfl
theorem loop_is_score (Dn : WD) (X : XW) (z : D) : ∀ (l : List It) (ms : List Str) (ps : List (D × D)) (n : Nat) (a b : Sl), ok ms l → Marks ps ms → ps.length ≤ n → n + l.length ≤ 1000 → (∀ (ps : List (D × D)) (a b : Sl), Dn.nx [.sh z, .ow (.dict ps), a, b]) →
    loopW (wgTup 2 (wgCons (wgName 2) (wgCons (wgName 3) (wgNil)))) (wSeq (wIfS (wNot (wT (wCallB fs_is_item [] (wCons (wVar 3) (wCons (wVar 1) (wNil)))))) (wRet (wC (.bool false))) (wNext)) (wIfS (wT (wOp oEq (wOp oIx (wVar 3) (wC (.int 0))) (wC (.str "mark")))) (wDPut 1 (wOp oIx (wVar 3) (wC (.int 1))) (wVar 2)) (wNext))) Dn X (enumF n (sc l)) [.sh z, .ow (.dict ps), a, b]
  | [], ms, ps, n, a, b, _, _, _, _, q => q ps a b
  | it :: l, ms, ps, n, a, b, h, hm, hl, hn, q => by
    have hn2 : n + 1 + l.length ≤ 1000 := by rw [List.length_cons] at hn; omega
    have hz : ps.length < sizeLine := small (by rw [List.length_cons] at hn; omega)
    rw [show sc (it :: l) = it.d :: sc l from rfl, enumF, ev_loop_cons]
    cases it with
    | bar nm =>
      simp
      refine ⟨rfl, .bar nm, ps, rfl, h.1, ?_⟩
      simp [It.d, flatR, flatD, sh_bar, sh_mark, eqv_str, bm]
      exact loop_is_score Dn X z l ms ps (n + 1) _ _ h.2 hm (by omega) hn2 q
    | mark nm =>
      simp
      refine ⟨rfl, .mark nm, ps, rfl, ⟨h.1, by have := hm nm; simpa [h.2.1] using this⟩, ?_⟩
      simp [It.d, flatR, flatD, sh_bar, sh_mark, eqv_str, mm, owW]
      exact ⟨hz, loop_is_score Dn X z l (nm :: ms) _ (n + 1) _ _ h.2.2 (hm.put nm _) (Nat.le_trans (dput_len _ _ _) (by omega)) hn2 q⟩
    | rep nm c =>
      simp
      refine ⟨rfl, .rep nm c, ps, rfl, ⟨h.1, by rw [hm nm]; simpa using h.2.1, h.2.2.1.1⟩, ?_⟩
      simp [It.d, flatR, flatD, sh_rep, sh_mark, eqv_str, rm]
      exact loop_is_score Dn X z l ms ps (n + 1) _ _ h.2.2.2 hm (by omega) hn2 q
theorem fv_is_score : FnV fs_is_score 4 w_is_score := by
  rintro io ds Q X ⟨rfl, l, rfl, h, hl, q⟩
  show w_is_score [.sh (.list (sc l)), .no, .no, .no] _ _
  simp [w_is_score, ev_wFor, enumD_eq]
  exact loop_is_score _ _ (.list (sc l)) l [] [] 0 .no .no h (fun n => by simp [dget]) (Nat.le_refl _) (by omega) fun ps a b => by simp; exact q
def fs_require_score : FS := fun io ds Q _ => io = none ∧ ∃ l : List It, ds = [.list (sc l)] ∧ ok [] l ∧ l.length ≤ 1000 ∧ Q (.sh .none) none
def w_require_score : WS := wIfS (wNot (wT (wCall fs_is_score [] (wCons (wVar 0) (wNil))))) (wNev) (wNext)
theorem fv_require_score : FnV fs_require_score 1 w_require_score := by
  rintro io ds Q X ⟨rfl, l, rfl, h, hl, q⟩
  show w_require_score [.sh (.list (sc l))] _ _
  simp [w_require_score]
  refine ⟨rfl, l, rfl, h, hl, ?_⟩
  simp
  exact q
end SC

set_option Elab.async false
set_option linter.all false
set_option maxRecDepth 100000
namespace SC
open PySem L2 VL

def MI (ps : List (D × D)) (l : List It) : Prop := ∀ n (j : Nat), l[j]? = some (.mark n) → dget ps (.str n) = some (.int (j : Int))
def fs_mark_indices : FS := fun io ds Q _ => io = none ∧ ∃ l : List It, ds = [.list (sc l)] ∧ ok [] l ∧ l.length ≤ 1000 ∧ ∀ ps, MI ps l → Q (.ow (.dict ps)) none
def w_mark_indices : WS := wRet (wDc [1, 2] (wiA enumD (wCons (wVar 0) (wNil))) (wgTup 2 (wgCons (wgName 1) (wgCons (wgName 2) (wgNil)))) (wT (wOp oEq (wOp oIx (wVar 2) (wC (.int 0))) (wC (.str "mark")))) (wOp oIx (wVar 2) (wC (.int 1))) (wVar 1))
theorem dc_marks (z : D) (k : List (D × D) → Ev → Prop) : ∀ (l : List It) (ms : List Str) (acc : List (D × D)) (n : Nat), ok ms l → acc.length ≤ n → n + l.length ≤ 1000 → Marks acc ms →
    (∀ ps, (∀ m v, dget acc (.str m) = some v → dget ps (.str m) = some v) → (∀ m (j : Nat), l[j]? = some (.mark m) → dget ps (.str m) = some (.int ((n + j : Nat) : Int))) → k ps [.sh z, .no, .no]) →
    dcW [1, 2] (wgTup 2 (wgCons (wgName 1) (wgCons (wgName 2) (wgNil)))) (wT (wOp oEq (wOp oIx (wVar 2) (wC (.int 0))) (wC (.str "mark")))) (wOp oIx (wVar 2) (wC (.int 1))) (wVar 1) k (enumF n (sc l)) acc [.sh z, .no, .no]
  | [], ms, acc, n, _, _, _, _, q => q acc (fun _ _ h => h) fun m j h => by simp at h
  | it :: l, ms, acc, n, h, hl, hn, hm, q => by
    have hn2 : n + 1 + l.length ≤ 1000 := by rw [List.length_cons] at hn; omega
    have hz : acc.length < sizeLine := small (by rw [List.length_cons] at hn; omega)
    have nx : ∀ ms' acc', ok ms' l → acc'.length ≤ n + 1 → Marks acc' ms' → (∀ m v, dget acc (.str m) = some v → dget acc' (.str m) = some v) → (∀ m, it = .mark m → dget acc' (.str m) = some (.int (n : Int))) →
        dcW [1, 2] (wgTup 2 (wgCons (wgName 1) (wgCons (wgName 2) (wgNil)))) (wT (wOp oEq (wOp oIx (wVar 2) (wC (.int 0))) (wC (.str "mark")))) (wOp oIx (wVar 2) (wC (.int 1))) (wVar 1) k (enumF (n + 1) (sc l)) acc' [.sh z, .no, .no] :=
      fun ms' acc' h1 h2 h3 h4 h5 => dc_marks z k l ms' acc' (n + 1) h1 h2 hn2 h3 fun ps p1 p2 => q ps (fun m v e => p1 m v (h4 m v e)) fun m j e => by
        cases j with
        | zero =>
          have : it = .mark m := by simpa using e
          exact p1 m _ (h5 m this)
        | succ j =>
          rw [p2 m j (by simpa using e)]
          congr 2
          omega
    rw [show sc (it :: l) = it.d :: sc l from rfl, enumF, dcW]
    cases it with
    | bar nm =>
      simp [It.d, sh_bar, sh_mark, eqv_str, bm, wipeE]
      exact nx ms acc h.2 (by omega) hm (fun _ _ e => e) fun m e => by cases e
    | mark nm =>
      simp [It.d, sh_mark, eqv_str, mm, wipeE]
      refine ⟨hz, nx (nm :: ms) _ h.2.2 (Nat.le_trans (dput_len _ _ _) (by omega)) (hm.put nm _) (fun m v e => ?_) fun m e => ?_⟩
      · rw [dget_putS]
        have : m ∈ ms := by
          have := hm m
          rw [e] at this
          simpa using this
        rw [if_neg fun z => h.2.1 (by rw [z]; exact this)]
        exact e
      · cases e
        rw [dget_putS, if_pos rfl]
    | rep nm c =>
      simp [It.d, sh_rep, sh_mark, eqv_str, rm, wipeE]
      exact nx ms acc h.2.2.2 (by omega) hm (fun _ _ e => e) fun m e => by cases e
theorem fv_mark_indices : FnV fs_mark_indices 3 w_mark_indices := by
  rintro io ds Q X ⟨rfl, l, rfl, h, hl, q⟩
  show w_mark_indices [.sh (.list (sc l)), .no, .no] _ _
  simp only [w_mark_indices, ev_wRet, ev_wDc, ev_wiA, ev_wCons, ev_wNil, ev_wVar, getS_0, slVar_sh, ev_frAll_cons, ev_frAll_nil, ev_fr_sh, enumD_eq]
  refine ⟨⟨trivial, trivial, trivial⟩, dc_marks (.list (sc l)) _ l [] [] 0 h (Nat.le_refl _) (by omega) (fun n => by simp [dget]) fun ps _ p => ?_⟩
  exact ⟨trivial, q ps fun n j e => by rw [p n j e]; congr 2; omega⟩

theorem ok_mark : ∀ {l : List It} {ms : List Str} {i : Nat} {n : Str} {c : Int}, ok ms l → l[i]? = some (.rep n c) → n ∈ ms ∨ ∃ j, j < i ∧ l[j]? = some (.mark n)
  | [], _, _, _, _, _, e => by simp at e
  | it :: l, ms, 0, n, c, h, e => by
    have : it = .rep n c := by simpa using e
    subst this
    exact .inl h.2.1
  | it :: l, ms, i + 1, n, c, h, e => by
    have e : l[i]? = some (.rep n c) := by simpa using e
    cases it with
    | bar m =>
      rcases ok_mark h.2 e with z | ⟨j, h1, h2⟩
      · exact .inl z
      · exact .inr ⟨j + 1, by omega, by simpa using h2⟩
    | rep m d =>
      rcases ok_mark h.2.2.2 e with z | ⟨j, h1, h2⟩
      · exact .inl z
      · exact .inr ⟨j + 1, by omega, by simpa using h2⟩
    | mark m =>
      rcases ok_mark h.2.2 e with z | ⟨j, h1, h2⟩
      · rcases List.mem_cons.mp z with rfl | z
        · exact .inr ⟨0, by omega, rfl⟩
        · exact .inl z
      · exact .inr ⟨j + 1, by omega, by simpa using h2⟩
def SS (ps : List (D × D)) (l : List It) : Prop := ∀ (i : Nat) n c, l[i]? = some (.rep n c) → ∃ j : Nat, j < i ∧ l[j]? = some (.mark n) ∧ dget ps (.int (i : Int)) = some (.int ((j : Int) + 1))
def fs_segment_starts : FS := fun io ds Q _ => io = none ∧ ∃ l : List It, ds = [.list (sc l)] ∧ ok [] l ∧ l.length ≤ 1000 ∧ ∀ ps, SS ps l → Q (.ow (.dict ps)) none
def w_segment_starts : WS := wSeq (wSet 1 (wCall fs_mark_indices [] (wCons (wVar 0) (wNil)))) (wRet (wDc [2, 3] (wiA enumD (wCons (wVar 0) (wNil))) (wgTup 2 (wgCons (wgName 2) (wgCons (wgName 3) (wgNil)))) (wT (wOp oEq (wOp oIx (wVar 3) (wC (.int 0))) (wC (.str "repeat")))) (wVar 2) (wOp oAdd (wOp oIx (wVar 1) (wOp oIx (wVar 3) (wC (.int 1)))) (wC (.int 1)))))
theorem dc_starts (L : List It) (mps : List (D × D)) (hMI : MI mps L) (hok : ok [] L) (z : D) (k : List (D × D) → Ev → Prop) : ∀ (l : List It) (acc : List (D × D)) (n : Nat), L.drop n = l → acc.length ≤ n → n + l.length ≤ 1000 →
    (∀ ps, (∀ (i : Nat) v, i < n → dget acc (.int (i : Int)) = some v → dget ps (.int (i : Int)) = some v) → (∀ (i : Nat) nm c, n ≤ i → L[i]? = some (.rep nm c) → ∃ j : Nat, j < i ∧ L[j]? = some (.mark nm) ∧ dget ps (.int (i : Int)) = some (.int ((j : Int) + 1))) → k ps [.sh z, .ow (.dict mps), .no, .no]) →
    dcW [2, 3] (wgTup 2 (wgCons (wgName 2) (wgCons (wgName 3) (wgNil)))) (wT (wOp oEq (wOp oIx (wVar 3) (wC (.int 0))) (wC (.str "repeat")))) (wVar 2) (wOp oAdd (wOp oIx (wVar 1) (wOp oIx (wVar 3) (wC (.int 1)))) (wC (.int 1))) k (enumF n (sc l)) acc [.sh z, .ow (.dict mps), .no, .no]
  | [], acc, n, hd, _, _, q => q acc (fun _ _ _ h => h) fun i nm c hi e => by
      have : L.length ≤ n := by simpa using hd
      have := (List.getElem?_eq_some_iff.mp e).1
      omega
  | it :: l, acc, n, hd, hl, hn, q => by
    have hn2 : n + 1 + l.length ≤ 1000 := by rw [List.length_cons] at hn; omega
    have hz : acc.length < sizeLine := small (by rw [List.length_cons] at hn; omega)
    have hit : L[n]? = some it := by
      have := congrArg (·[0]?) hd
      simpa using this
    have hd2 : L.drop (n + 1) = l := by
      have := congrArg (List.drop 1) hd
      simpa [Nat.add_comm] using this
    have nx : ∀ acc', acc'.length ≤ n + 1 → (∀ (i : Nat) v, i < n → dget acc (.int (i : Int)) = some v → dget acc' (.int (i : Int)) = some v) → (∀ nm c, it = .rep nm c → ∃ j : Nat, j < n ∧ L[j]? = some (.mark nm) ∧ dget acc' (.int (n : Int)) = some (.int ((j : Int) + 1))) →
        dcW [2, 3] (wgTup 2 (wgCons (wgName 2) (wgCons (wgName 3) (wgNil)))) (wT (wOp oEq (wOp oIx (wVar 3) (wC (.int 0))) (wC (.str "repeat")))) (wVar 2) (wOp oAdd (wOp oIx (wVar 1) (wOp oIx (wVar 3) (wC (.int 1)))) (wC (.int 1))) k (enumF (n + 1) (sc l)) acc' [.sh z, .ow (.dict mps), .no, .no] :=
      fun acc' h1 h2 h3 => dc_starts L mps hMI hok z k l acc' (n + 1) hd2 h1 hn2 fun ps p1 p2 => q ps (fun i v hi e => p1 i v (by omega) (h2 i v hi e)) fun i nm c hi e => by
        by_cases hin : i = n
        · subst hin
          rw [hit] at e
          obtain ⟨j, j1, j2, j3⟩ := h3 nm c (Option.some.inj e)
          exact ⟨j, j1, j2, p1 i _ (by omega) j3⟩
        · exact p2 i nm c (by omega) e
    rw [show sc (it :: l) = it.d :: sc l from rfl, enumF, dcW]
    cases it with
    | bar nm =>
      simp [It.d, sh_bar, sh_rep, eqv_str, br, wipeE]
      exact nx acc (by omega) (fun _ _ _ e => e) fun m c e => by cases e
    | mark nm =>
      simp [It.d, sh_mark, sh_rep, eqv_str, mr, wipeE]
      exact nx acc (by omega) (fun _ _ _ e => e) fun m c e => by cases e
    | rep nm c =>
      rcases ok_mark hok hit with zz | ⟨j, j1, j2⟩
      · cases zz
      · simp [It.d, sh_rep, eqv_str, rr, wipeE, ev_rd_vr, ev_ixd, hMI nm j j2]
        refine ⟨hz, nx _ (Nat.le_trans (dput_len _ _ _) (by omega)) (fun i v hi e => ?_) fun m d e => ?_⟩
        · rw [dget_putI, if_neg (by omega)]
          exact e
        · cases e
          exact ⟨j, j1, j2, by rw [dget_putI, if_pos rfl]⟩
theorem fv_segment_starts : FnV fs_segment_starts 4 w_segment_starts := by
  rintro io ds Q X ⟨rfl, l, rfl, h, hl, q⟩
  show w_segment_starts [.sh (.list (sc l)), .no, .no, .no] _ _
  simp only [w_segment_starts, ev_wSeq, ev_wSet, ev_wCall, ev_wCons, ev_wNil, ev_wVar, getS_0, slVar_sh, ev_frAll_cons, ev_frAll_nil, ev_fr_sh, List.append_nil]
  refine ⟨rfl, l, rfl, h, hl, fun mps hMI => ?_⟩
  simp only [ev_setR_ow, List.set_cons_succ, List.set_cons_zero, ev_wRet, ev_wDc, ev_wiA, ev_wCons, ev_wNil, ev_wVar, getS_0, slVar_sh, ev_frAll_cons, ev_frAll_nil, ev_fr_sh, enumD_eq]
  refine ⟨⟨trivial, trivial, trivial⟩, dc_starts l mps hMI h (.list (sc l)) _ l [] 0 rfl (Nat.le_refl _) (by omega) fun ps _ p => ?_⟩
  exact ⟨trivial, q ps fun i n c e => p i n c (by omega) e⟩
end SC

set_option Elab.async false
set_option linter.all false
set_option maxRecDepth 100000
namespace SC
open PySem L2 VL

abbrev Sta := (Str → Int) × Int
def stp (p : Sta) : It → Sta
  | .bar _ => (p.1, p.2 + 1)
  | .mark n => (fun m => if m = n then p.2 else p.1 m, p.2)
  | .rep n c => (p.1, p.2 + c * (p.2 - p.1 n))
def st (p : Sta) (l : List It) : Sta := l.foldl stp p
def p0 : Sta := (fun _ => 0, 0)
def run (p : Sta) : List It → List Int
  | [] => [p.2]
  | it :: r => p.2 :: run (stp p it) r
theorem st_take {l : List It} {p : Sta} {n : Nat} {it : It} (h : l[n]? = some it) : st p (l.take (n + 1)) = stp (st p (l.take n)) it := by
  have hn : n < l.length := (List.getElem?_eq_some_iff.mp h).1
  have : l.take (n + 1) = l.take n ++ [it] := by
    rw [List.take_succ, h]; rfl
  unfold st
  rw [this, List.foldl_append]
  rfl
theorem ok_fresh : ∀ {l : List It} {ms : List Str} {i : Nat} {n : Str}, ok ms l → l[i]? = some (.mark n) → n ∉ ms
  | [], _, _, _, _, e => by simp at e
  | it :: l, ms, 0, n, h, e => by
    have : it = .mark n := by simpa using e
    subst this
    exact h.2.1
  | it :: l, ms, i + 1, n, h, e => by
    have e : l[i]? = some (.mark n) := by simpa using e
    cases it with
    | bar m => exact ok_fresh h.2 e
    | rep m d => exact ok_fresh h.2.2.2 e
    | mark m => exact fun z => ok_fresh h.2.2 e (List.mem_cons_of_mem _ z)
theorem ok_uniq : ∀ {l : List It} {ms : List Str} {i j : Nat} {n : Str}, ok ms l → l[i]? = some (.mark n) → l[j]? = some (.mark n) → i = j
  | [], _, _, _, _, _, e, _ => by simp at e
  | it :: l, ms, 0, 0, n, _, _, _ => rfl
  | it :: l, ms, 0, j + 1, n, h, e, e2 => by
    have : it = .mark n := by simpa using e
    subst this
    exact absurd List.mem_cons_self (ok_fresh (i := j) h.2.2 (by simpa using e2))
  | it :: l, ms, i + 1, 0, n, h, e, e2 => by
    have : it = .mark n := by simpa using e2
    subst this
    exact absurd List.mem_cons_self (ok_fresh (i := i) h.2.2 (by simpa using e))
  | it :: l, ms, i + 1, j + 1, n, h, e, e2 => by
    have e : l[i]? = some (.mark n) := by simpa using e
    have e2 : l[j]? = some (.mark n) := by simpa using e2
    congr 1
    cases it with
    | bar m => exact ok_uniq h.2 e e2
    | rep m d => exact ok_uniq h.2.2.2 e e2
    | mark m => exact ok_uniq h.2.2 e e2
theorem mark_time {l : List It} {p : Sta} (h : ok [] l) {j : Nat} {n : Str} (hj : l[j]? = some (.mark n)) : ∀ i, j < i → i ≤ l.length → (st p (l.take i)).1 n = (st p (l.take (j + 1))).2 := by
  intro i
  induction i with
  | zero => intro z; omega
  | succ i ih =>
    intro hji hil
    have hi : i < l.length := by omega
    have e := st_take (p := p) (List.getElem?_eq_getElem hi)
    by_cases hij : j = i
    · subst hij
      rw [List.getElem?_eq_getElem hi] at hj
      rw [e, Option.some.inj hj]
      simp [stp]
    · rw [e, ← ih (by omega) (by omega)]
      cases q : l[i] with
      | bar m => rfl
      | rep m c => rfl
      | mark m =>
        have : ¬ n = m := fun z => hij (ok_uniq h hj (by rw [List.getElem?_eq_getElem hi, q, z]))
        simp [stp, this]
def Bd (p : Sta) (n : Nat) : Prop := 0 ≤ p.2 ∧ p.2 < ((2 ^ (32 * n) : Nat) : Int) ∧ ∀ m, 0 ≤ p.1 m ∧ p.1 m ≤ p.2
theorem Bd.stp {p : Sta} {n : Nat} (h : Bd p n) {it : It} (hc : ∀ m c, it = .rep m c → 1 ≤ c ∧ c < 2 ^ 31) : Bd (stp p it) (n + 1) := by
  obtain ⟨h1, h2, h3⟩ := h
  have e : ((2 ^ (32 * (n + 1)) : Nat) : Int) = 4294967296 * ((2 ^ (32 * n) : Nat) : Int) := by
    have : 2 ^ (32 * (n + 1)) = 2 ^ (32 * n) * 4294967296 := by
      rw [show 32 * (n + 1) = 32 * n + 32 by omega, Nat.pow_add]
    rw [this, Int.natCast_mul]; omega
  cases it with
  | bar m =>
    refine ⟨?_, ?_, fun m => ?_⟩
    · show 0 ≤ p.2 + 1; omega
    · show p.2 + 1 < _; rw [e]; omega
    · have := h3 m; show 0 ≤ p.1 m ∧ p.1 m ≤ p.2 + 1; omega
  | mark m =>
    refine ⟨h1, by show p.2 < _; rw [e]; omega, fun x => ?_⟩
    show 0 ≤ (if x = m then p.2 else p.1 x) ∧ (if x = m then p.2 else p.1 x) ≤ p.2
    have := h3 x
    split <;> omega
  | rep m c =>
    obtain ⟨c1, c2⟩ := hc m c rfl
    have := h3 m
    have l1 : 0 ≤ c * (p.2 - p.1 m) := Int.mul_nonneg (by omega) (by omega)
    have l2 : c * (p.2 - p.1 m) ≤ 2147483648 * p.2 := by
      calc c * (p.2 - p.1 m) ≤ 2147483648 * (p.2 - p.1 m) := Int.mul_le_mul_of_nonneg_right (by omega) (by omega)
        _ ≤ 2147483648 * p.2 := by omega
    refine ⟨?_, ?_, fun x => ?_⟩
    · show 0 ≤ p.2 + c * (p.2 - p.1 m); omega
    · show p.2 + c * (p.2 - p.1 m) < _; rw [e]; omega
    · have := h3 x
      show 0 ≤ p.1 x ∧ p.1 x ≤ p.2 + c * (p.2 - p.1 m); omega
theorem ok_count : ∀ {l : List It} {ms : List Str} {i : Nat} {n : Str} {c : Int}, ok ms l → l[i]? = some (.rep n c) → 1 ≤ c ∧ c < 2 ^ 31
  | [], _, _, _, _, _, e => by simp at e
  | it :: l, ms, 0, n, c, h, e => by
    have : it = .rep n c := by simpa using e
    subst this
    exact h.2.2.1
  | it :: l, ms, i + 1, n, c, h, e => by
    have e : l[i]? = some (.rep n c) := by simpa using e
    cases it with
    | bar m => exact ok_count h.2 e
    | rep m d => exact ok_count h.2.2.2 e
    | mark m => exact ok_count h.2.2 e
theorem bd_st {l : List It} (h : ok [] l) : ∀ n, n ≤ l.length → Bd (st p0 (l.take n)) n := by
  intro n
  induction n with
  | zero => intro _; exact ⟨Int.le_refl 0, (by decide : (0 : Int) < ((2 ^ (32 * 0) : Nat) : Int)), fun m => ⟨Int.le_refl 0, Int.le_refl 0⟩⟩
  | succ n ih =>
    intro hn
    have hi : n < l.length := by omega
    rw [st_take (List.getElem?_eq_getElem hi)]
    exact (ih (by omega)).stp fun m c e => ok_count h (by rw [List.getElem?_eq_getElem hi, e])
theorem ix_lastE {l : List D} {d : D} {k : R → Prop} (h : l.getLast? = some d) : oIx (.list l) (.int (-1)) k = k (.sh d) := by
  rw [List.getLast?_eq_getElem?] at h
  have hn : l.length - 1 < l.length := (List.getElem?_eq_some_iff.mp h).1
  rw [ev_ixl]
  have : atI l (-1) = some d := by
    unfold atI
    have : ixN l.length (-1) = some (l.length - 1) := by
      unfold ixN
      rw [if_neg (by omega), if_pos (by omega)]
      congr 1
      omega
    rw [this]; exact h
  rw [this]
theorem ix_lnE {l : List D} {n : Nat} {d : D} {k : R → Prop} (h : l[n]? = some d) : oIx (.list l) (.int (n : Int)) k = k (.sh d) := by
  have hn : n < l.length := (List.getElem?_eq_some_iff.mp h).1
  rw [ev_ixl]
  have : atI l (n : Int) = some d := by
    unfold atI
    have : ixN l.length (n : Int) = some n := by
      unfold ixN
      simp
      omega
    rw [this]; exact h
  rw [this]
theorem mul_ok {i j : Int} {b : Nat} (hi : i.natAbs < 2 ^ 32) (hj : j.natAbs < 2 ^ b) (h0 : 0 < b) (hb : b ≤ 900000) : CMulW i j := wide_mul (a := 32) (b := b) hi hj (by decide) h0 (by omega)
end SC

set_option Elab.async false
set_option linter.all false
set_option maxRecDepth 100000
namespace SC
open PySem L2 VL

def vis : List It → Int × (Str → Int)
  | [] => (1, fun _ => 0)
  | .bar _ :: r => vis r
  | .mark n :: r => ((vis r).1 - (vis r).2 n, (vis r).2)
  | .rep n c :: r => ((vis r).1 * (c + 1), fun m => if m = n then (vis r).2 m + c * (vis r).1 else (vis r).2 m)
def Vb (p : Int × (Str → Int)) (n : Nat) : Prop := p.1.natAbs ≤ 2 ^ (32 * n) ∧ ∀ m, (p.2 m).natAbs ≤ 2 ^ (32 * n)
theorem vb : ∀ {l : List It} {ms : List Str}, (∀ (i : Nat) n c, l[i]? = some (.rep n c) → 1 ≤ c ∧ c < 2 ^ 31) → Vb (vis l) l.length
  | [], _, _ => ⟨by decide, fun m => by simp [vis]⟩
  | it :: r, ms, h => by
    have ih := vb (l := r) (ms := []) fun i n c e => h (i + 1) n c (by simpa using e)
    obtain ⟨h1, h2⟩ := ih
    have e : 2 ^ (32 * (r.length + 1)) = 2 ^ (32 * r.length) * 4294967296 := by rw [show 32 * (r.length + 1) = 32 * r.length + 32 by omega, Nat.pow_add]
    rw [List.length_cons]
    unfold Vb
    rw [e]
    generalize 2 ^ (32 * r.length) = B at *
    cases it with
    | bar m => exact ⟨by show (vis r).1.natAbs ≤ _; omega, fun x => by have := h2 x; show ((vis r).2 x).natAbs ≤ _; omega⟩
    | mark m =>
      have := h2 m
      exact ⟨by show ((vis r).1 - (vis r).2 m).natAbs ≤ _; omega, fun x => by have := h2 x; show ((vis r).2 x).natAbs ≤ _; omega⟩
    | rep m c =>
      obtain ⟨c1, c2⟩ := h 0 m c rfl
      have l1 : ((vis r).1 * (c + 1)).natAbs ≤ B * 4294967296 := by
        rw [Int.natAbs_mul]
        exact Nat.mul_le_mul h1 (by omega)
      have l2 : (c * (vis r).1).natAbs ≤ 2147483648 * B := by
        rw [Int.natAbs_mul]
        exact Nat.mul_le_mul (by omega) h1
      refine ⟨l1, fun x => ?_⟩
      show (if x = m then (vis r).2 x + c * (vis r).1 else (vis r).2 x).natAbs ≤ _
      have := h2 x
      split <;> omega
def total (l : List It) : Int := (st p0 l).2
def fs_is_repeat : FS := fun io ds Q _ => io = none ∧ ∃ (l : List It) (i : Nat) (n : Str) (c : Int), ds = [.list (sc l), .int (i : Int)] ∧ l[i]? = some (.rep n c) ∧ Q (.sh (.bool true)) none
def w_is_repeat : WS := wRet (wAndV (wCall fs_is_integer [] (wCons (wVar 1) (wCons (wC (.int 0)) (wCons (wOp (oII (fun _ _ => True) (· - ·)) (wCB (o1 oLen) (wCons (wVar 0) (wNil))) (wC (.int 1))) (wNil))))) (wOp oEq (wOp oIx (wOp oIx (wVar 0) (wVar 1)) (wC (.int 0))) (wC (.str "repeat"))))
theorem sc_get {l : List It} {i : Nat} {it : It} (h : l[i]? = some it) : (sc l)[i]? = some it.d := by rw [sc, List.getElem?_map, h]; rfl
theorem sc_length (l : List It) : (sc l).length = l.length := by simp [sc]
theorem fv_is_repeat : FnV fs_is_repeat 2 w_is_repeat := by
  rintro io ds Q X ⟨rfl, l, i, n, c, rfl, h, q⟩
  have hi : i < l.length := (List.getElem?_eq_some_iff.mp h).1
  show w_is_repeat [.sh (.list (sc l)), .sh (.int (i : Int))] _ _
  simp [w_is_repeat]
  refine ⟨rfl, .int (i : Int), 0, .int (((sc l).length : Int) - 1), by simp, .inr ⟨_, rfl⟩, ?_⟩
  have : isIntD (.int (i : Int)) 0 (.int (((sc l).length : Int) - 1)) = true := by simp [isIntD, sc_length]; omega
  rw [this]
  simp [ix_lnE (sc_get h), It.d, sh_rep, eqv_str, rr]
  exact q
end SC

set_option Elab.async false
set_option linter.all false
set_option maxRecDepth 100000
namespace SC
open PySem L2 VL

def StrOk (n : Nat) (d : D) : Prop := ∃ a b c : Int, d = .list [.int a, .int b, .int c] ∧ 0 ≤ a ∧ 0 ≤ b ∧ b < 2 ^ 200 ∧ 0 ≤ c ∧ c ≤ (n : Int)
theorem StrOk.mono {n m : Nat} {d : D} (h : StrOk n d) (l : n ≤ m) : StrOk m d := by
  obtain ⟨a, b, c, e, h1, h2, h3, h4, h5⟩ := h
  exact ⟨a, b, c, e, h1, h2, h3, h4, by omega⟩
theorem bits_le (x : Int) : Builtin.Int.intBits x ≤ x.natAbs.log2 + 1 := by
  unfold Builtin.Int.intBits
  split <;> omega
theorem pow_ok {x : Int} {b : Nat} (h0 : 0 < b) (hb : b ≤ 1000000) (h : x.natAbs < 2 ^ b) : CPowW x 3 := by
  refine ⟨by decide, ?_⟩
  have h1 := bits_le x
  have h2 := PySem.Flt.log2_lt_of h0 h
  have : (2 : Int) ^ 27 = 134217728 := by decide
  rw [this]
  omega
theorem pow10 (n : Int) (h : 0 ≤ n) (h2 : n ≤ 1000) : CPowW 10 n := by
  refine ⟨h, ?_⟩
  have h1 := bits_le 10
  have e : (10 : Int).natAbs.log2 = 3 := by decide
  rw [e] at h1
  have : (2 : Int) ^ 27 = 134217728 := by decide
  rw [this]
  have : (Builtin.Int.intBits 10 : Int) * n ≤ 4 * n := Int.mul_le_mul_of_nonneg_right (by omega) h
  omega
theorem ix3_0 : ixN 3 0 = some 0 := by decide
theorem ix3_2 : ixN 3 2 = some 2 := by decide
theorem div_ok {i j : Int} (h : 0 < j) (h2 : j < 2 ^ 64) : CDivW i j := wide_div (b := 64) h (by omega) (by decide) (by decide)
theorem two {r : Int} (h0 : 0 ≤ r) (h : r < 2) : r = 0 ∨ r = 1 := by omega
end SC

set_option Elab.async false
set_option linter.all false
set_option maxRecDepth 100000
namespace SC
open PySem L2 VL

def mk : List Str → List It → List Str
  | ms, [] => ms
  | ms, .bar _ :: r => mk ms r
  | ms, .mark n :: r => mk (n :: ms) r
  | ms, .rep _ _ :: r => mk ms r
theorem mk_app : ∀ (a b : List It) (ms : List Str), mk ms (a ++ b) = mk (mk ms a) b
  | [], b, ms => rfl
  | it :: a, b, ms => by cases it <;> exact mk_app a b _
theorem ok_app : ∀ (a b : List It) (ms : List Str), ok ms (a ++ b) ↔ ok ms a ∧ ok (mk ms a) b
  | [], b, ms => by simp [ok, mk]
  | it :: a, b, ms => by
    cases it <;> simp [ok, mk, ok_app a b, and_assoc]
theorem name_strOk {s : Str} (h : nameB s = true) : PyData.strOk s = true := by
  unfold nameB at h
  rw [Bool.and_eq_true] at h
  have h := h.2
  unfold PyData.strOk
  rw [← Array.all_toList]
  refine List.all_eq_true.mpr fun c hc => ?_
  have hl : letter c = true := List.all_eq_true.mp h c hc
  have hm : c ∈ letters.cps.toList := of_decide_eq_true hl
  have ha : (letters.cps.toList.all fun c => decide (c < 0x110000)) = true := by decide +kernel
  exact List.all_eq_true.mp ha c hm
theorem canAll_strs : ∀ ys : List Str, (∀ n ∈ ys, PyData.strOk n = true) → PyData.canLayAll0 (ys.map .str) = true
  | [], _ => by simp [PyData.canLayAll0]
  | y :: ys, h => by
    have ih := canAll_strs ys fun n hn => h n (List.mem_cons_of_mem _ hn)
    simp [PyData.canLayAll0, PyData.canLay0, h y List.mem_cons_self, ih]
theorem dep_strs : ∀ ys : List Str, PyData.depthAll (ys.map .str) = 0
  | [] => by simp [PyData.depthAll]
  | y :: ys => by simp [PyData.depthAll, PyData.depth, dep_strs ys]
theorem shaped_strs {ys : List Str} (h : ∀ n ∈ ys, PyData.strOk n = true) : SeqAt.shaped (.list (ys.map .str)) = true := by
  simp [SeqAt.shaped, PyData.canLay0, PyData.depth, canAll_strs ys h, dep_strs ys]
structure ScI (i : Nat) (l : List It) (ps : List (D × D)) (len : Int) : Prop where
  ok : ok [] l
  ll : l.length ≤ i
  mks : Marks ps (mk [] l)
  ks : ∃ ks : List Str, ps.map (·.1) = ks.map .str ∧ ks.length ≤ i ∧ ∀ n ∈ ks, n ∈ mk [] l ∧ nameB n = true
  vals : ∀ x v, dget ps (.str x) = some v → ∃ j : Int, v = .int j ∧ 0 ≤ j ∧ j ≤ len
  l0 : 0 ≤ len
  l1 : len < ((2 ^ (32 * i) : Nat) : Int)
def c_law_score : WS := wIfS (wAnd (wT (wOp oEq (wVar 9) (wC (.int 3)))) (wT (wOp (oIn true) (wVar 10) (wVar 4)))) (wSeq (wDrop (wMut 3 fAppend (wCons (wTup (wCons (wC (.str "mark")) (wCons (wVar 10) (wNil)))) wNil))) (wDPut 4 (wVar 10) (wVar 5))) (wIfS (wAnd (wT (wOp (oIB fun i j => decide (j < i)) (wVar 9) (wC (.int 3)))) (wAnd (wT (wOp oNe (wVar 13) (wC (.str "")))) (wAnd (wT (wOp (oIB fun i j => decide (j < i)) (wVar 11) (wC (.int 0)))) (wOr (wT (wOp (oIB fun i j => decide (j < i)) (wVar 14) (wC (.int 0)))) (wOr (wT (wOp oEq (wVar 2) (wC (.int 0)))) (wT (wOp (oIB fun i j => decide (i < j)) (wVar 6) (wC (.int 4))))))))) (wSeq (wDrop (wMut 3 fAppend (wCons (wTup (wCons (wC (.str "repeat")) (wCons (wVar 13) (wCons (wIf (wOr (wT (wOp (oIB fun i j => decide (j < i)) (wVar 14) (wC (.int 0)))) (wT (wOp oEq (wVar 2) (wC (.int 0))))) (wVar 11) (wC (.int 1))) (wNil))))) wNil))) (wSet 5 (wOp oAdd (wVar 5) (wOp oMul (wVar 11) (wVar 14))))) (wIfS (wOr (wT (wOp oEq (wVar 2) (wC (.int 0)))) (wT (wOp (oIB fun i j => decide (i < j)) (wVar 5) (wVar 2)))) (wSeq (wDrop (wMut 3 fAppend (wCons (wTup (wCons (wC (.str "bar")) (wCons (wVar 10) (wNil)))) wNil))) (wSet 5 (wOp oAdd (wVar 5) (wC (.int 1))))) (wNext)))
end SC

set_option Elab.async false
set_option linter.all false
set_option maxRecDepth 100000
namespace SC
open PySem L2 VL

def ins (l : List It) (p : Nat) (n : Str) (c : Int) : List It := l.take p ++ .rep n c :: l.drop p
end SC

set_option Elab.async false
set_option linter.all false
set_option maxRecDepth 100000
namespace SC
open PySem L2 VL

theorem cut_drop {l : List D} {p : Nat} (h : p ≤ l.length) : cutD l (some (p : Int)) none = l.drop p := by
  unfold cutD
  have : HT.sIx l.length 0 (some (p : Int)) = p := by rw [HT.sIx_nat]; omega
  rw [this]
  have : HT.sIx l.length l.length none = l.length := by simp [HT.sIx]
  rw [this]
  exact List.take_of_length_le (by simp)
def It.fine : It → Prop
  | .bar n => PyData.strOk n = true
  | .mark n => PyData.strOk n = true
  | .rep n _ => PyData.strOk n = true
theorem ok_fine : ∀ {l : List It} {ms : List Str} {i : Nat} {it : It}, ok ms l → l[i]? = some it → it.fine
  | [], _, _, _, _, e => by simp at e
  | x :: l, ms, 0, it, h, e => by
    have : x = it := by simpa using e
    subst this
    cases x with
    | bar n => exact name_strOk h.1
    | mark n => exact name_strOk h.1
    | rep n c => exact name_strOk h.1
  | x :: l, ms, i + 1, it, h, e => by
    have e : l[i]? = some it := by simpa using e
    cases x with
    | bar m => exact ok_fine h.2 e
    | rep m d => exact ok_fine h.2.2.2 e
    | mark m => exact ok_fine h.2.2 e
theorem shaped_item {it : It} (h : it.fine) : SeqAt.shaped it.d = true := by
  have b1 : PyData.strOk "bar" = true := by decide +kernel
  have b2 : PyData.strOk "mark" = true := by decide +kernel
  have b3 : PyData.strOk "repeat" = true := by decide +kernel
  cases it with
  | bar n => have h : PyData.strOk n = true := h; simp [It.d, SeqAt.shaped, PyData.canLay0, PyData.canLayAll0, PyData.depth, PyData.depthAll, h, b1]
  | mark n => have h : PyData.strOk n = true := h; simp [It.d, SeqAt.shaped, PyData.canLay0, PyData.canLayAll0, PyData.depth, PyData.depthAll, h, b2]
  | rep n c => have h : PyData.strOk n = true := h; simp [It.d, SeqAt.shaped, PyData.canLay0, PyData.canLayAll0, PyData.depth, PyData.depthAll, h, b3]
def isMark : It → Str → Bool
  | .mark m, n => m == n
  | _, _ => false
theorem isMark_iff (it : It) (n : Str) : isMark it n = true ↔ it = .mark n := by
  cases it <;> simp [isMark]
end SC

set_option Elab.async false
set_option linter.all false
set_option maxRecDepth 100000
namespace SC
open PySem L2 VL

end SC

set_option Elab.async false
set_option linter.all false
set_option maxRecDepth 100000
namespace SC
open PySem L2 VL

@[simp ↓] theorem ev_wCallKw (fs : FS) (is : List Nat) (m : Nat) (wa : WA) (Γ : Ev) (Q : R → Ev → Prop) (X : XW) : wCallKw fs is m wa Γ Q X = wa Γ (fun rs Γ1 => frAll rs Γ1 fun ds Γ2 => ds.length = m ∧ fs none (reord is ds) (fun r _ => Q r Γ2) fun x _ => X x Γ2) X := rfl
end SC

set_option Elab.async false
set_option linter.all false
set_option maxRecDepth 100000
namespace SC
open PySem L2 VL

theorem b1 : PyData.strOk "bar" = true := by decide +kernel
theorem b2 : PyData.strOk "mark" = true := by decide +kernel
theorem b3 : PyData.strOk "repeat" = true := by decide +kernel
theorem s1 : ("bar" : Str).cps.size = 3 := by decide +kernel
theorem s2 : ("mark" : Str).cps.size = 4 := by decide +kernel
theorem s3 : ("repeat" : Str).cps.size = 6 := by decide +kernel
def It.shows : It → Prop
  | .bar n => nameB n = true
  | .mark n => nameB n = true
  | .rep n c => nameB n = true ∧ 1 ≤ c ∧ c < 2 ^ 31
theorem ok_shows : ∀ {l : List It} {ms : List Str}, ok ms l → ∀ it ∈ l, it.shows
  | [], _, _, _, h => nomatch h
  | x :: l, ms, h, it, hit => by
    rcases List.mem_cons.mp hit with rfl | hm
    · cases it with
      | bar n => exact h.1
      | mark n => exact h.1
      | rep n c => exact ⟨h.1, h.2.2.1⟩
    · cases x with
      | bar n => exact ok_shows h.2 it hm
      | mark n => exact ok_shows h.2.2 it hm
      | rep n c => exact ok_shows h.2.2.2 it hm
theorem name_size {n : Str} (h : nameB n = true) : n.cps.size ≤ 8 := by
  unfold nameB at h
  rw [Bool.and_eq_true, Bool.and_eq_true] at h
  have := of_decide_eq_true h.1.2
  exact this
theorem item_facts {it : It} (h : it.shows) : it.d.canLay0 = true ∧ it.d.depth ≤ 1 ∧ it.d.weight ≤ 60 ∧ it.d.intsShort 13 = true ∧ it.d.showable = true := by
  cases it with
  | bar n =>
    have hn := name_strOk h
    have hs := name_size h
    refine ⟨?_, ?_, ?_, ?_, ?_⟩
    · simp [It.d, PyData.canLay0, PyData.canLayAll0, hn, b1]
    · simp [It.d, PyData.depth, PyData.depthAll]
    · simp [It.d, PyData.weight, PyData.weightAll, s1]; omega
    · simp [It.d, PyData.intsShort, PyData.intsShortAll]
    · simp [It.d, PyData.showable, PyData.showableAll]
  | mark n =>
    have hn := name_strOk h
    have hs := name_size h
    refine ⟨?_, ?_, ?_, ?_, ?_⟩
    · simp [It.d, PyData.canLay0, PyData.canLayAll0, hn, b2]
    · simp [It.d, PyData.depth, PyData.depthAll]
    · simp [It.d, PyData.weight, PyData.weightAll, s2]; omega
    · simp [It.d, PyData.intsShort, PyData.intsShortAll]
    · simp [It.d, PyData.showable, PyData.showableAll]
  | rep n c =>
    obtain ⟨h, c1, c2⟩ := h
    have hn := name_strOk h
    have hs := name_size h
    have hi : (PyData.shown (.int c)).length ≤ 13 := PyData.shown_int_le (by omega)
    have hl : c.natAbs.log2 < 64 := PySem.Flt.log2_lt_of (by decide) (by omega)
    refine ⟨?_, ?_, ?_, ?_, ?_⟩
    · simp [It.d, PyData.canLay0, PyData.canLayAll0, hn, b3]
    · simp [It.d, PyData.depth, PyData.depthAll]
    · have hl2 : c.natAbs.log2 < 32 := PySem.Flt.log2_lt_of (by decide) (by omega)
      have : (if (c == 0) = true then 0 else c.natAbs.log2 + 1) ≤ 33 := by split <;> omega
      simp only [It.d, PyData.weight, PyData.weightAll, s3]; omega
    · simp [It.d, PyData.intsShort, PyData.intsShortAll, hi]
    · simp [It.d, PyData.showable, PyData.showableAll]; omega
theorem all_facts : ∀ {l : List It}, (∀ it ∈ l, it.shows) → PyData.canLayAll0 (sc l) = true ∧ PyData.depthAll (sc l) ≤ 1 ∧ PyData.weightAll (sc l) ≤ 61 * l.length ∧ PyData.intsShortAll 13 (sc l) = true ∧ PyData.showableAll (sc l) = true
  | [], _ => by simp [sc, PyData.canLayAll0, PyData.depthAll, PyData.weightAll, PyData.intsShortAll, PyData.showableAll]
  | it :: l, h => by
    obtain ⟨a1, a2, a3, a4, a5⟩ := item_facts (h it List.mem_cons_self)
    obtain ⟨i1, i2, i3, i4, i5⟩ := all_facts (l := l) fun x hx => h x (List.mem_cons_of_mem _ hx)
    rw [show sc (it :: l) = it.d :: sc l from rfl]
    refine ⟨?_, ?_, ?_, ?_, ?_⟩
    · simp [PyData.canLayAll0, a1, i1]
    · simp only [PyData.depthAll]; omega
    · simp only [PyData.weightAll, List.length_cons]; omega
    · simp [PyData.intsShortAll, a4, i4]
    · simp [PyData.showableAll, a5, i5]
theorem score_shown {l : List It} (h : ok [] l) (hl : l.length ≤ 10000) : SeqAt.shaped (.list (sc l)) = true ∧ PyData.showable (.list (sc l)) = true ∧ (PyData.shown (.list (sc l))).length ≤ sizeLine := by
  obtain ⟨i1, i2, i3, i4, i5⟩ := all_facts (ok_shows h)
  have c : PyData.canLay0 (.list (sc l)) = true := by simp [PyData.canLay0, i1]
  have dp : PyData.depth (.list (sc l)) ≤ 64 := by simp only [PyData.depth]; omega
  have w : PyData.weight (.list (sc l)) ≤ 2 ^ 20 := by simp only [PyData.weight]; omega
  have lay : PyData.layable0 (.list (sc l)) = true := by
    unfold PyData.layable0
    rw [c]
    simp [dp, w]
  refine ⟨by unfold SeqAt.shaped; rw [c]; simp [dp], by simp [PyData.showable, i5], ?_⟩
  have := PyData.shown_le_of_layable0 lay (by simp [PyData.intsShort, i4])
  rw [sizeLine_eq]
  omega
end SC

set_option Elab.async false
set_option linter.all false
set_option maxRecDepth 100000
namespace SC
open PySem L2 VL
def isRep (L : List It) (j : Nat) : Bool := match L[j]? with
  | some (.rep _ _) => true
  | _ => false
def cof (L : List It) (j : Nat) : Int := match L[j]? with
  | some (.rep _ c) => c
  | _ => 0
def rnm (L : List It) (j : Nat) : Option Str := match L[j]? with
  | some (.rep n _) => some n
  | _ => none
def stt (L : List It) (j : Nat) : Nat := match L[j]? with
  | some (.rep n _) => L.findIdx (isMark · n) + 1
  | _ => 0
theorem stt_eq {L : List It} (h : ok [] L) {i j : Nat} {n : Str} {c : Int} (hi : L[i]? = some (.rep n c)) (hj : L[j]? = some (.mark n)) : stt L i = j + 1 := by
  unfold stt
  rw [hi]
  dsimp only
  congr 1
  have hjl : j < L.length := (List.getElem?_eq_some_iff.mp hj).1
  have hj' : L[j] = .mark n := by rw [List.getElem?_eq_getElem hjl] at hj; exact Option.some.inj hj
  have h1 : L.findIdx (isMark · n) < L.length := List.findIdx_lt_length_of_exists ⟨L[j], List.getElem_mem hjl, (isMark_iff _ _).mpr hj'⟩
  have h2 := List.findIdx_getElem (w := h1)
  exact ok_uniq h (by rw [List.getElem?_eq_getElem h1, (isMark_iff _ _).mp h2]) hj
theorem stt_le {L : List It} (h : ok [] L) {i : Nat} {n : Str} {c : Int} (hi : L[i]? = some (.rep n c)) : ∃ j, j < i ∧ L[j]? = some (.mark n) ∧ stt L i = j + 1 := by
  rcases ok_mark h hi with z | ⟨j, h1, h2⟩
  · cases z
  · exact ⟨j, h1, h2, stt_eq h hi h2⟩
theorem isRep_iff {L : List It} {j : Nat} : isRep L j = true ↔ ∃ n c, L[j]? = some (.rep n c) := by
  unfold isRep
  split
  · rename_i n c e; simp [e]
  · rename_i e
    constructor
    · intro z; cases z
    · rintro ⟨n, c, e2⟩; exact absurd e2 (e n c)
end SC

set_option Elab.async false
set_option linter.all false
set_option maxRecDepth 100000
namespace SC
open PySem L2 VL

def tpS (L : List It) : Nat → List Nat × (Str → Nat)
  | 0 => ([], fun _ => 0)
  | n + 1 => match L[n]? with
    | some (.bar _) => ((tpS L n).1 ++ [n], (tpS L n).2)
    | some (.mark m) => ((tpS L n).1, fun x => if x = m then (tpS L n).1.length else (tpS L n).2 x)
    | some (.rep m c) => ((tpS L n).1 ++ (List.replicate c.toNat ((tpS L n).1.drop ((tpS L n).2 m))).flatten, (tpS L n).2)
    | none => tpS L n
abbrev tp (L : List It) (n : Nat) : List Nat := (tpS L n).1
abbrev ml (L : List It) (n : Nat) : Str → Nat := (tpS L n).2
abbrev tl (L : List It) (n : Nat) : Nat := (tp L n).length
section
variable {L : List It} {n : Nat}
theorem tp_bar {m : Str} (e : L[n]? = some (.bar m)) : tp L (n + 1) = tp L n ++ [n] := by simp [tp, tpS, e]
theorem tp_mark {m : Str} (e : L[n]? = some (.mark m)) : tp L (n + 1) = tp L n := by simp [tp, tpS, e]
theorem tp_rep {m : Str} {c : Int} (e : L[n]? = some (.rep m c)) : tp L (n + 1) = tp L n ++ (List.replicate c.toNat ((tp L n).drop (ml L n m))).flatten := by simp [tp, tpS, e]
theorem ml_bar {m : Str} (e : L[n]? = some (.bar m)) : ml L (n + 1) = ml L n := by simp [ml, tpS, e]
theorem ml_mark {m : Str} (e : L[n]? = some (.mark m)) (x : Str) : ml L (n + 1) x = if x = m then tl L n else ml L n x := by simp [ml, tpS, e]
theorem ml_rep {m : Str} {c : Int} (e : L[n]? = some (.rep m c)) : ml L (n + 1) = ml L n := by simp [ml, tpS, e]
theorem flat_len {α : Type} (s : List α) : ∀ c : Nat, ((List.replicate c s).flatten).length = c * s.length
  | 0 => by simp
  | c + 1 => by rw [List.replicate_succ, List.flatten_cons, List.length_append, flat_len s c, Nat.succ_mul]; omega
theorem tp_len (h : ok [] L) : ∀ n, n ≤ L.length → (tl L n : Int) = (st p0 (L.take n)).2 ∧ ∀ m, (ml L n m : Int) = (st p0 (L.take n)).1 m
  | 0, _ => ⟨rfl, fun _ => rfl⟩
  | n + 1, hn => by
    obtain ⟨h1, h2⟩ := tp_len h n (by omega)
    have hi : n < L.length := by omega
    have e := List.getElem?_eq_getElem hi
    have es := st_take (p := p0) e
    have hb := bd_st h n (by omega)
    cases c : L[n] with
    | bar m =>
      rw [c] at e es
      rw [es]
      refine ⟨?_, fun x => ?_⟩
      · show ((tp L (n + 1)).length : Int) = (st p0 (L.take n)).2 + 1
        rw [tp_bar e, List.length_append]
        have h1 : ((tp L n).length : Int) = _ := h1
        simp
        exact h1
      · rw [ml_bar e]; exact h2 x
    | mark m =>
      rw [c] at e es
      rw [es]
      refine ⟨?_, fun x => ?_⟩
      · show ((tp L (n + 1)).length : Int) = (st p0 (L.take n)).2
        rw [tp_mark e]; exact h1
      · show _ = (if x = m then (st p0 (L.take n)).2 else (st p0 (L.take n)).1 x)
        rw [ml_mark e]
        split
        · exact h1
        · exact h2 x
    | rep m k =>
      rw [c] at e es
      rw [es]
      refine ⟨?_, fun x => by rw [ml_rep e]; exact h2 x⟩
      show ((tp L (n + 1)).length : Int) = (st p0 (L.take n)).2 + k * ((st p0 (L.take n)).2 - (st p0 (L.take n)).1 m)
      have hk := ok_count h e
      have hm := h2 m
      have hbm := hb.2.2 m
      have h1 : ((tp L n).length : Int) = _ := h1
      rw [tp_rep e, List.length_append, flat_len, List.length_drop, Int.natCast_add, Int.natCast_mul, h1]
      congr 1
      have : ((((tp L n).length - ml L n m : Nat)) : Int) = (st p0 (L.take n)).2 - (st p0 (L.take n)).1 m := by omega
      rw [this]
      congr 1
      omega
theorem tp_step (n : Nat) : tp L n <+: tp L (n + 1) := by
  cases e : L[n]? with
  | none => simp [tp, tpS, e]
  | some it =>
    cases it with
    | bar m => rw [tp_bar e]; exact List.prefix_append _ _
    | mark m => rw [tp_mark e]; exact List.prefix_refl _
    | rep m c => rw [tp_rep e]; exact List.prefix_append _ _
theorem tp_pre : ∀ {k : Nat}, n ≤ k → tp L n <+: tp L k := fun {k} h => by
  induction k with
  | zero => have : n = 0 := by omega
            subst this; exact List.prefix_refl _
  | succ k ih =>
    by_cases e : n = k + 1
    · subst e; exact List.prefix_refl _
    · exact (ih (by omega)).trans (tp_step k)
abbrev TT (L : List It) : List Nat := tp L L.length
theorem tl_mono {k : Nat} (h : n ≤ k) : tl L n ≤ tl L k := (tp_pre h).length_le
theorem ml_eq (h : ok [] L) {j : Nat} {m : Str} (hj : L[j]? = some (.mark m)) (h1 : j < n) (h2 : n ≤ L.length) : ml L n m = tl L (j + 1) := by
  have a := (tp_len h n h2).2 m
  rw [mark_time h hj n h1 h2, ← (tp_len h (j + 1) (by omega)).1] at a
  omega
end
abbrev Sf (f : Nat → Int) (l : List Nat) : Int := (l.map f).sum
def Sb (f : Nat → Int) (L : List It) (t : Nat) : Int := Sf f ((TT L).take t)
section
variable {L : List It} {n : Nat} {f : Nat → Int}
theorem seg_eq (h : ok [] L) {m : Str} {c : Int} (e : L[n]? = some (.rep m c)) {j : Nat} (hj : L[j]? = some (.mark m)) (hjn : j < n) : (tp L n).drop (ml L n m) = (tp L n).drop (tl L (j + 1)) := by
  have hn := (List.getElem?_eq_some_iff.mp e).1
  rw [ml_eq h hj hjn (by omega)]
section
variable (h : ok [] L) {m : Str} {c : Int} (e : L[n]? = some (.rep m c)) {j : Nat} (hj : L[j]? = some (.mark m)) (hjn : j < n)
include h e hj hjn
theorem tl_rep : tl L (n + 1) = tl L n + c.toNat * (tl L n - tl L (j + 1)) := by
  show (tp L (n + 1)).length = _
  rw [tp_rep e, seg_eq h e hj hjn, List.length_append, flat_len, List.length_drop]
end
end
end SC

set_option Elab.async false
set_option linter.all false
set_option maxRecDepth 100000
namespace SC
open PySem L2 VL

section
variable {L : List It} {n : Nat} {f : Nat → Int}
def Loc (f : Nat → Int) (L : List It) (a : Int) (t : Nat) (r : Int) : Prop := ∃ b, (TT L)[t]? = some b ∧ Sb f L t + r = a ∧ 0 ≤ r ∧ r < f b
end
end SC

set_option Elab.async false
set_option linter.all false
set_option maxRecDepth 100000
namespace SC
open PySem L2 VL

abbrev Act := List (Nat × Int)
def Vs (L : List It) : Nat → Nat → Act → Prop
  | _, _, [] => True
  | ins, m, q :: a => (isRep L q.1 = true ∧ m ≤ q.1 ∧ stt L q.1 ≤ ins ∧ 1 ≤ q.2 ∧ q.2 ≤ cof L q.1) ∧ Vs L q.1 (q.1 + 1) a
def eI (ins : Nat) : Act → Nat
  | [] => ins
  | q :: a => eI q.1 a
def eM (m : Nat) : Act → Nat
  | [] => m
  | q :: a => eM (q.1 + 1) a
def aw (w : Nat → Int) (a : Act) : Int := (a.map fun q => q.2 * w q.1).sum
theorem aw_nil (w : Nat → Int) : aw w [] = 0 := rfl
theorem aw_cons (w : Nat → Int) (q : Nat × Int) (a : Act) : aw w (q :: a) = q.2 * w q.1 + aw w a := by unfold aw; rw [List.map_cons, List.sum_cons]
def sg (L : List It) (r : Nat) : Int := (tl L r : Int) - (tl L (stt L r) : Int)
def tv (L : List It) (p : Nat) (a : Act) : Int := (tl L p : Int) + aw (sg L) a
section
variable {L : List It}
theorem rep_lt {r : Nat} (h : isRep L r = true) : r < L.length := by
  obtain ⟨n, c, e⟩ := isRep_iff.mp h
  exact (List.getElem?_eq_some_iff.mp e).1
theorem stt_rep (h : ok [] L) {r : Nat} (hr : isRep L r = true) : 1 ≤ stt L r ∧ stt L r ≤ r ∧ ∃ n c, L[r]? = some (.rep n c) ∧ L[stt L r - 1]? = some (.mark n) ∧ cof L r = c := by
  obtain ⟨n, c, e⟩ := isRep_iff.mp hr
  obtain ⟨j, j1, j2, j3⟩ := stt_le h e
  refine ⟨by omega, by omega, n, c, e, ?_, by simp [cof, e]⟩
  rw [j3]; exact j2
theorem Vs.weak {ins m m' : Nat} (hm : m' ≤ m) : ∀ {a : Act}, Vs L ins m a → Vs L ins m' a
  | [], _ => True.intro
  | q :: a, ⟨⟨h1, h2, h3⟩, h4⟩ => ⟨⟨h1, by omega, h3⟩, h4⟩
theorem Vs.out {ins ins' m : Nat} (hi : ins ≤ ins') : ∀ {a : Act}, Vs L ins m a → Vs L ins' m a
  | [], _ => True.intro
  | q :: a, ⟨⟨h1, h2, h3, h5⟩, h4⟩ => ⟨⟨h1, h2, by omega, h5⟩, h4⟩
theorem Vs.up {ins m : Nat} (hm : isRep L m = false) : ∀ {a : Act}, Vs L ins m a → Vs L ins (m + 1) a
  | [], _ => True.intro
  | q :: a, ⟨⟨h1, h2, h3⟩, h4⟩ => ⟨⟨h1, by
    have : m ≠ q.1 := fun z => by rw [z] at hm; rw [h1] at hm; cases hm
    omega, h3⟩, h4⟩
theorem eM_le {ins m : Nat} (hm : m ≤ L.length) : ∀ {a : Act}, Vs L ins m a → eM m a ≤ L.length
  | [], _ => hm
  | q :: a, ⟨⟨h1, _⟩, h4⟩ => eM_le (rep_lt h1) h4
theorem Vs_len {ins m : Nat} : ∀ {a : Act}, Vs L ins m a → m ≤ L.length → a.length + m ≤ L.length
  | [], _, h => by simpa using h
  | q :: a, ⟨⟨h1, h2, _⟩, h4⟩, _ => by
    have := Vs_len h4 (rep_lt h1)
    simp
    omega
section
variable {F w : Nat → Int} (hF : ∀ i j, i ≤ j → j ≤ L.length → F i ≤ F j) (hw : ∀ r, isRep L r = true → 0 ≤ w r ∧ F r + cof L r * w r ≤ F (r + 1))
include hF hw
theorem aw_up {ins m : Nat} {x : Int} : ∀ {a : Act}, Vs L ins m a → m ≤ L.length → x ≤ F m → x + aw w a ≤ F (eM m a) := by
  intro a
  induction a generalizing ins m x with
  | nil => intro _ _ hx; rw [aw_nil, Int.add_zero]; exact hx
  | cons q a ih =>
    rintro ⟨⟨h1, h2, h3, h4, h5⟩, h6⟩ hm hx
    have hl := rep_lt h1
    obtain ⟨w0, w1⟩ := hw q.1 h1
    have a1 := hF m q.1 h2 (by omega)
    have a2 := Int.mul_le_mul_of_nonneg_right h5 w0
    have := ih (x := x + q.2 * w q.1) h6 hl (by omega)
    rw [aw_cons]
    show _ ≤ F (eM (q.1 + 1) a)
    omega
end
theorem tl_sg (h : ok [] L) {r : Nat} (hr : isRep L r = true) : 0 ≤ sg L r ∧ ((tl L (r + 1) : Nat) : Int) = ((tl L r : Nat) : Int) + cof L r * sg L r := by
  obtain ⟨s1, s2, n, c, e1, e2, e3⟩ := stt_rep h hr
  have hc := ok_count h e1
  have e := tl_rep h e1 e2 (by omega)
  rw [show stt L r - 1 + 1 = stt L r by omega] at e
  have hm := tl_mono (L := L) s2
  unfold sg
  refine ⟨by omega, ?_⟩
  rw [e, e3, Int.natCast_add, Int.natCast_mul, Int.toNat_of_nonneg (by omega), Int.natCast_sub hm]
theorem bar_rep {p : Nat} {n : Str} (e : L[p]? = some (.bar n)) : isRep L p = false := by unfold isRep; rw [e]
theorem tl_barS {p : Nat} {n : Str} (e : L[p]? = some (.bar n)) : tl L (p + 1) = tl L p + 1 := by
  show (tp L (p + 1)).length = _
  rw [tp_bar e, List.length_append]; rfl
theorem tl_markS {p : Nat} {n : Str} (e : L[p]? = some (.mark n)) : tl L (p + 1) = tl L p := by
  show (tp L (p + 1)).length = _
  rw [tp_mark e]
end
end SC

set_option Elab.async false
set_option linter.all false
set_option maxRecDepth 100000
namespace VL
open PySem L2

section
variable {g : WG} {b : WS} {Dn : WD} {X : XW} {Γ : Ev}
theorem drop_cons {α : Type} {ds r : List α} {d : α} {n : Nat} (e : ds.drop n = d :: r) : ds[n]? = some d ∧ ds.drop (n + 1) = r ∧ n < ds.length := by
  have h1 : ds[n]? = some d := by
    have := congrArg (·[0]?) e
    simpa using this
  refine ⟨h1, ?_, (List.getElem?_eq_some_iff.mp h1).1⟩
  have := congrArg (List.drop 1) e
  simpa [Nat.add_comm] using this
theorem drop_nil {α : Type} {ds : List α} {n : Nat} (e : ds.drop n = []) : ds.length ≤ n := by simpa using e
theorem loop_inv (I : Nat → Ev → Prop) {ds : List PyData} (h0 : I 0 Γ)
    (hs : ∀ (i : Nat) (d : PyData) (Γ : Ev) (k : Ev → Prop), ds[i]? = some d → I i Γ → (∀ Γ', I (i + 1) Γ' → k Γ') → g d Γ fun Γ1 => b Γ1 ⟨k, Dn.rt, Dn.nx, k⟩ X)
    (hd : ∀ Γ, I ds.length Γ → Dn.nx Γ) : loopW g b Dn X ds Γ := by
  suffices h : ∀ (r : List PyData) (n : Nat) (Γ : Ev), ds.drop n = r → n ≤ ds.length → I n Γ → loopW g b Dn X r Γ from h ds 0 Γ rfl (Nat.zero_le _) h0
  intro r
  induction r with
  | nil =>
    intro n Γ e hn h
    have := drop_nil e
    have : n = ds.length := by omega
    subst this
    exact hd _ h
  | cons d r ih =>
    intro n Γ e hn h
    obtain ⟨h1, h2, h3⟩ := drop_cons e
    exact hs n d Γ _ h1 h fun Γ' h' => ih (n + 1) Γ' h2 h3 h'
theorem loop_mem (I : Ev → Prop) {ds : List PyData} (h0 : I Γ)
    (hs : ∀ (d : PyData) (Γ : Ev) (k : Ev → Prop), d ∈ ds → I Γ → (∀ Γ', I Γ' → k Γ') → g d Γ fun Γ1 => b Γ1 ⟨k, Dn.rt, Dn.nx, k⟩ X)
    (hd : ∀ Γ, I Γ → Dn.nx Γ) : loopW g b Dn X ds Γ :=
  loop_inv (fun _ => I) h0 (fun i d Γ k hi h hk => hs d Γ k (List.mem_of_getElem? hi) h hk) hd
theorem while_inv {c : WT} (I : Nat → Ev → Prop) (n : Nat) (h0 : I n Γ)
    (hs : ∀ (n : Nat) (Γ : Ev) (k : Ev → Prop), I n Γ → (∀ m Γ', m < n → I m Γ' → k Γ') → c Γ (fun z Γ1 => if z = true then b Γ1 ⟨k, Dn.rt, Dn.nx, k⟩ X else Dn.nx Γ1) X) : wWhile c b Γ Dn X := by
  refine ⟨n + 1, ?_⟩
  suffices h : ∀ N m Γ, m < N → I m Γ → whileN c b Dn X N Γ from h (n + 1) n Γ (Nat.lt_succ_self _) h0
  intro N
  induction N with
  | zero => intro m Γ hm; omega
  | succ N ih =>
    intro m Γ hm h
    exact hs m Γ _ h fun m' Γ' h1 h2 => ih m' Γ' (by omega) h2
end
section
variable {vs : List Nat} {g : WG} {t : WT} {w wk wv : WE} {k : List D → Ev → Prop} {Γ : Ev}
def lcT (vs : List Nat) (g : WG) (t : WT) (w : WE) (k : List D → Ev → Prop) (d : D) (acc : List D) (Γ : Ev) : Prop :=
  g d Γ fun Γ1 => t Γ1 (fun b Γ2 => if b = true then w Γ2 (fun r Γ3 => frW r Γ3 fun e Γ4 => acc.length < sizeLine ∧ k (acc ++ [e]) (wipeE Γ4 vs)) noX else k acc (wipeE Γ2 vs)) noX
theorem lc_inv (I : Nat → List D → Ev → Prop) {ds : List PyData} (h0 : I 0 [] Γ)
    (hs : ∀ (i : Nat) (d : PyData) (acc : List D) (Γ : Ev) (k : List D → Ev → Prop), ds[i]? = some d → I i acc Γ → (∀ acc' Γ', I (i + 1) acc' Γ' → k acc' Γ') → lcT vs g t w k d acc Γ)
    (hd : ∀ acc Γ, I ds.length acc Γ → k acc Γ) : lcW vs g t w k ds [] Γ := by
  suffices h : ∀ (r : List PyData) (n : Nat) (acc : List D) (Γ : Ev), ds.drop n = r → n ≤ ds.length → I n acc Γ → lcW vs g t w k r acc Γ from h ds 0 [] Γ rfl (Nat.zero_le _) h0
  intro r
  induction r with
  | nil =>
    intro n acc Γ e hn h
    have := drop_nil e
    have : n = ds.length := by omega
    subst this
    exact hd _ _ h
  | cons d r ih =>
    intro n acc Γ e hn h
    obtain ⟨h1, h2, h3⟩ := drop_cons e
    exact hs n d acc Γ (fun acc Γ => lcW vs g t w k r acc Γ) h1 h fun acc' Γ' h' => ih (n + 1) acc' Γ' h2 h3 h'
theorem lc_list {α : Type} (l : List α) (dl : Nat → α → D) (f : Nat → α → List D) (hf : ∀ i a, (f i a).length ≤ 1) (hl : l.length ≤ 1000000)
    (hs : ∀ (i : Nat) (a : α) (acc : List D) (k : List D → Ev → Prop), l[i]? = some a → acc.length < sizeLine → k (acc ++ f i a) Γ → lcT vs g t w k (dl i a) acc Γ)
    (hd : k (l.mapIdx f).flatten Γ) : lcW vs g t w k (l.mapIdx dl) [] Γ := by
  have len : ∀ n, (((l.take n).mapIdx f).flatten).length ≤ n := by
    intro n
    induction n with
    | zero => simp
    | succ n ih =>
      rw [List.take_succ]
      cases e : l[n]? with
      | none => simpa using Nat.le_succ_of_le ih
      | some a =>
        have hn : n < l.length := (List.getElem?_eq_some_iff.mp e).1
        rw [show (some a).toList = [a] from rfl, List.mapIdx_append, List.flatten_append, List.length_append]
        have h1 := hf (0 + (l.take n).length) a
        have h2 : ([a].mapIdx fun i => f (i + (l.take n).length)).flatten = f (0 + (l.take n).length) a := by simp
        rw [h2]
        omega
  refine lc_inv (fun i acc Γ' => acc = ((l.take i).mapIdx f).flatten ∧ Γ' = Γ) ⟨rfl, rfl⟩ ?_ ?_
  · rintro i d acc Γ' k' hi ⟨rfl, rfl⟩ hk
    rw [List.getElem?_mapIdx] at hi
    cases e : l[i]? with
    | none => rw [e] at hi; cases hi
    | some a =>
      rw [e] at hi
      have hil : i < l.length := (List.getElem?_eq_some_iff.mp e).1
      cases (Option.some.inj hi)
      refine hs i a _ k' e (by have := len i; rw [sizeLine_eq]; omega) (hk _ _ ⟨?_, rfl⟩)
      rw [List.take_succ, e, show (some a).toList = [a] from rfl, List.mapIdx_append, List.flatten_append]
      congr 1
      rw [List.length_take, Nat.min_eq_left (by omega)]
      simp
  · rintro acc Γ' ⟨rfl, rfl⟩
    rw [List.length_mapIdx, List.take_of_length_le (Nat.le_refl _)]
    exact hd
theorem lc_filter {α : Type} (l : List α) (dl : Nat → α → D) (f : Nat → α → Option D) (hl : l.length ≤ 1000000)
    (hs : ∀ (i : Nat) (a : α) (acc : List D) (k : List D → Ev → Prop), l[i]? = some a → acc.length < sizeLine → k (acc ++ (f i a).toList) Γ → lcT vs g t w k (dl i a) acc Γ)
    (hd : k ((l.mapIdx f).filterMap id) Γ) : lcW vs g t w k (l.mapIdx dl) [] Γ := by
  refine lc_list l dl (fun i a => (f i a).toList) (fun i a => by cases f i a <;> simp) hl hs ?_
  have : ∀ (l : List α) (f : Nat → α → Option D), (l.mapIdx fun i a => (f i a).toList).flatten = (l.mapIdx f).filterMap id := by
    intro l
    induction l with
    | nil => intro f; rfl
    | cons a l ih => intro f; cases e : f 0 a <;> simp [List.mapIdx_cons, ih, e]
  rw [this]
  exact hd
end
section
variable {vs : List Nat} {g : WG} {t : WT} {wk wv : WE} {k : List (D × D) → Ev → Prop} {Γ : Ev}
end
theorem map_mapIdx {α β : Type} (l : List α) (f : α → β) : l.map f = l.mapIdx fun _ a => f a := by
  induction l with
  | nil => rfl
  | cons a l ih => simp [List.mapIdx_cons, ih]
theorem mapIdx_fm {α : Type} (f : α → Option D) : ∀ l : List α, (l.mapIdx fun _ a => f a).filterMap id = l.filterMap f
  | [] => rfl
  | a :: l => by
    rw [List.mapIdx_cons, List.filterMap_cons, List.filterMap_cons, mapIdx_fm f l]
    rfl
section
variable {vs : List Nat} {g : WG} {t : WT} {w : WE} {k : List D → Ev → Prop} {Γ : Ev} {α : Type}
theorem lcm_some (l : List α) (dl : α → D) (f : α → Option D) (hl : l.length ≤ 1000000)
    (hs : ∀ (a : α) (acc : List D) (k : List D → Ev → Prop), a ∈ l → acc.length < sizeLine → k (acc ++ (f a).toList) Γ → lcT vs g t w k (dl a) acc Γ)
    (hd : k (l.filterMap f) Γ) : lcW vs g t w k (l.map dl) [] Γ := by
  rw [map_mapIdx]
  refine lc_filter l (fun _ a => dl a) (fun _ a => f a) hl (fun i a acc k hi => hs a acc k (List.mem_of_getElem? hi)) ?_
  rw [mapIdx_fm]
  exact hd
theorem lcm_map (l : List α) (dl f : α → D) (hl : l.length ≤ 1000000)
    (hs : ∀ (a : α) (acc : List D) (k : List D → Ev → Prop), a ∈ l → acc.length < sizeLine → k (acc ++ [f a]) Γ → lcT vs g t w k (dl a) acc Γ)
    (hd : k (l.map f) Γ) : lcW vs g t w k (l.map dl) [] Γ :=
  lcm_some l dl (fun a => some (f a)) hl hs (by rw [List.filterMap_eq_map']; exact hd)
theorem filt_fm (q : α → Bool) (dl : α → D) : ∀ l : List α, l.filterMap (fun a => if q a = true then some (dl a) else none) = (l.filter q).map dl
  | [] => rfl
  | a :: l => by
    rw [List.filterMap_cons, List.filter_cons, filt_fm q dl l]
    cases q a <;> simp
theorem lcm_filt (l : List α) (dl f : α → D) (q : α → Bool) (hl : l.length ≤ 1000000)
    (hs : ∀ (a : α) (acc : List D) (k : List D → Ev → Prop), a ∈ l → acc.length < sizeLine → (q a = true → k (acc ++ [f a]) Γ) → (q a = false → k acc Γ) → lcT vs g t w k (dl a) acc Γ)
    (hd : k ((l.filter q).map f) Γ) : lcW vs g t w k (l.map dl) [] Γ := by
  refine lcm_some l dl (fun a => if q a = true then some (f a) else none) hl (fun a acc k ha hz hk => hs a acc k ha hz (fun e => ?_) (fun e => ?_)) ?_
  · rw [if_pos e] at hk; exact hk
  · rw [if_neg (by rw [e]; simp)] at hk; simpa using hk
  · rw [filt_fm]; exact hd
end
end VL

set_option Elab.async false
set_option linter.all false
set_option maxRecDepth 100000
namespace SC
open PySem L2 VL

def e_law_score : WS := wIfS (wOr (wT (wOp oEq (wVar 2) (wC (.int 0)))) (wT (wOp (oIB fun i j => decide (i < j)) (wVar 5) (wVar 2)))) (wSeq (wDrop (wMut 3 fAppend (wCons (wTup (wCons (wC (.str "bar")) (wCons (wVar 10) (wNil)))) wNil))) (wSet 5 (wOp oAdd (wVar 5) (wC (.int 1))))) (wNext)
theorem c_eq : c_law_score = wIfS (wAnd (wT (wOp oEq (wVar 9) (wC (.int 3)))) (wT (wOp (oIn true) (wVar 10) (wVar 4)))) (wSeq (wDrop (wMut 3 fAppend (wCons (wTup (wCons (wC (.str "mark")) (wCons (wVar 10) (wNil)))) wNil))) (wDPut 4 (wVar 10) (wVar 5))) (wIfS (wAnd (wT (wOp (oIB fun i j => decide (j < i)) (wVar 9) (wC (.int 3)))) (wAnd (wT (wOp oNe (wVar 13) (wC (.str "")))) (wAnd (wT (wOp (oIB fun i j => decide (j < i)) (wVar 11) (wC (.int 0)))) (wOr (wT (wOp (oIB fun i j => decide (j < i)) (wVar 14) (wC (.int 0)))) (wOr (wT (wOp oEq (wVar 2) (wC (.int 0)))) (wT (wOp (oIB fun i j => decide (i < j)) (wVar 6) (wC (.int 4))))))))) (wSeq (wDrop (wMut 3 fAppend (wCons (wTup (wCons (wC (.str "repeat")) (wCons (wVar 13) (wCons (wIf (wOr (wT (wOp (oIB fun i j => decide (j < i)) (wVar 14) (wC (.int 0)))) (wT (wOp oEq (wVar 2) (wC (.int 0))))) (wVar 11) (wC (.int 1))) (wNil))))) wNil))) (wSet 5 (wOp oAdd (wVar 5) (wOp oMul (wVar 11) (wVar 14))))) e_law_score) := rfl
structure ScJ (cap : Int) (i : Nat) (l : List It) (ps : List (D × D)) (len : Int) : Prop where
  ok : ok [] l
  ll : l.length ≤ i
  mks : Marks ps (mk [] l)
  ks : ∃ ks : List Str, ps.map (·.1) = ks.map .str ∧ ks.length ≤ i ∧ ∀ n ∈ ks, n ∈ mk [] l ∧ nameB n = true
  vals : ∀ x v, dget ps (.str x) = some v → v = .int ((st p0 l).1 x)
  tot : len = total l
  top : 0 < cap → len ≤ cap
theorem ScJ.up {cap : Int} {i : Nat} {l : List It} {ps : List (D × D)} {len : Int} (h : ScJ cap i l ps len) : ScJ cap (i + 1) l ps len :=
  ⟨h.ok, Nat.le_succ_of_le h.ll, h.mks, let ⟨ks, a, b, c⟩ := h.ks; ⟨ks, a, Nat.le_succ_of_le b, c⟩, h.vals, h.tot, h.top⟩
end SC

set_option Elab.async false
set_option linter.all false
set_option maxRecDepth 100000
namespace SC
open PySem L2 VL

end SC

set_option Elab.async false
set_option linter.all false
set_option maxRecDepth 100000
namespace SC
open PySem L2 VL

end SC

set_option Elab.async false
set_option linter.all false
set_option maxRecDepth 100000
namespace SC
open PySem L2 VL

theorem tl_lt {L : List It} (h : ok [] L) : ∀ n, n ≤ L.length → tl L n < 2 ^ (31 * n)
  | 0, _ => by simp [tl, tp, tpS]
  | n + 1, hn => by
    have ih := tl_lt h n (by omega)
    have e31 : 2 ^ (31 * (n + 1)) = 2 ^ (31 * n) * 2147483648 := by rw [show 31 * (n + 1) = 31 * n + 31 by omega, Nat.pow_add]
    rw [e31]
    have hi : n < L.length := by omega
    have e := List.getElem?_eq_getElem hi
    cases c : L[n] with
    | bar m =>
      rw [c] at e
      show (tp L (n + 1)).length < _
      rw [tp_bar e, List.length_append]
      show tl L n + 1 < _
      omega
    | mark m =>
      rw [c] at e
      show (tp L (n + 1)).length < _
      rw [tp_mark e]
      show tl L n < _
      omega
    | rep m k =>
      rw [c] at e
      have hk := ok_count h e
      obtain ⟨j, j1, j2, _⟩ := stt_le h e
      rw [tl_rep h e j2 j1]
      have h1 : k.toNat * (tl L n - tl L (j + 1)) ≤ 2147483647 * tl L n := Nat.mul_le_mul (by omega) (by omega)
      omega
structure Wt (f : Nat → Int) (L : List It) (w : Nat) : Prop where
  lo : ∀ i, 0 ≤ f i
  hi : ∀ i, f i ≤ 2 ^ w
  sz : w + 31 * L.length ≤ 9000
end SC

set_option Elab.async false
set_option linter.all false
set_option maxRecDepth 100000
namespace SC
open PySem L2 VL

end SC

set_option Elab.async false
set_option linter.all false
set_option maxRecDepth 100000
namespace SC
open PySem L2 VL

end SC

set_option Elab.async false
set_option linter.all false
set_option maxRecDepth 100000
namespace SC
open PySem L2 VL

theorem rnm_some {l : List It} {j : Nat} {n : Str} (h : rnm l j = some n) : ∃ c, l[j]? = some (.rep n c) := by
  unfold rnm at h
  split at h
  · rename_i m c e
    cases h
    exact ⟨c, e⟩
  · cases h
theorem behind {l : List It} (h : ok [] l) {j r : Nat} {n : Str} (hj : l[j]? = some (.mark n)) (hr : rnm l r = some n) : j < r := by
  obtain ⟨c, e⟩ := rnm_some hr
  obtain ⟨i, i1, i2, _⟩ := stt_le h e
  rw [ok_uniq h hj i2]
  exact i1
end SC

set_option Elab.async false
set_option linter.all false
set_option maxRecDepth 100000
namespace SC
open PySem L2 VL

end SC

set_option Elab.async false
set_option linter.all false
set_option maxRecDepth 100000
namespace SC
open PySem L2 VL

end SC

set_option Elab.async false
set_option linter.all false
set_option maxRecDepth 100000
namespace SC
open PySem L2 VL

end SC

set_option Elab.async false
set_option linter.all false
set_option maxRecDepth 100000
namespace VL
open PySem PySem.Spec L2 PyProof.Rows

section
variable {P : Program} {w : World} {A : Around} {E : Value → Shared → Prop} {s : Shared}
set_option maxHeartbeats 4000000 in
end
end VL

set_option Elab.async false
set_option linter.all false
set_option maxRecDepth 100000
namespace VL
open PySem PySem.Spec L2 PyProof.Rows

section
variable {X : Cx} {G : Gb} {W : WX} {C : Cf} {Hi H H' : Hp} {σ : St} {Γ : Ev}
def oSortSet : Op1 := fun d k => isL d fun l => ∃ ns : List Int, l = ns.map .int ∧ ns.length < 63 ∧ ∀ ns' : List Int, ns'.Pairwise (· < ·) → (∀ x, x ∈ ns' ↔ x ∈ ns) → k (.ow (.list (ns'.map .int)))
def tyD (T : String) (d : D) : Prop := match d with
  | .str _ => T = "str"
  | .int _ => T = "int"
  | .list _ => T = "list"
  | _ => False
abbrev OpMR := D → List D → (R → Prop) → Prop
def SemMR (G : Gb) (r : V → List V → Hp → VK → Prop) (o : OpMR) : Prop := ∀ {C : Cf} {Hi : Hp} {σ : St} {H : Hp} {Γ : Ev} {x : V} {xs : List V} {d : D} {ds : List D} {k : R → Prop} {Q : VK}, Rel G C Hi σ H Γ → Rdb G.K Hi H x d → Rdbs G.K Hi H xs ds → o d ds k →
  (∀ v r H' Hi', Ext Hi Hi' → Out G C Hi' σ H' Γ v r → k r → Q v H') → r x xs H Q
def wMR (T : String) (o : OpMR) (wo : WE) (wa : WA) : WE := fun Γ Q X => wo Γ (fun r Γ1 => rdW r Γ1 fun d => tyD T d ∧ wa Γ1 (fun rs Γ2 => rdW r Γ2 fun d => rdAll rs Γ2 fun ds => o d ds fun r' => Q r' Γ2) X) X
def wMR0 (T : String) (o : OpMR) (wo : WE) : WE := fun Γ Q X => wo Γ (fun r Γ1 => rdW r Γ1 fun d => tyD T d ∧ o d [] fun r' => Q r' Γ1) X
theorem tyV_of {K : Fg} {T : String} {x : V} {d : D} (e : Ext Hi H) (h : Rdb K Hi H x d) (t : tyD T d) : tyV K T x H := by
  unfold tyD at t
  split at t
  · rw [h.str]; exact t
  · rw [h.int]; exact t
  · obtain ⟨p, xs, rfl, s, _⟩ := h.list e
    exact .inl ⟨t, _, SqL.of s⟩
  · exact t.elim
theorem sim_mr {T : String} {r : V → List V → Hp → VK → Prop} {o : OpMR} {to : TE} {wo : WE} {ta : TA} {wa : WA} (h : SemMR G r o) (ho : SimE G W to wo) (ha : SimA G W ta wa) : SimE G W (tBM G.K T r to ta) (wMR T o wo wa) := by
  intro C Hi σ H Γ Q Qd Xd c hw hQ hX
  refine ho C Hi σ H Γ _ _ Xd c hw (fun v1 r1 H1 Hi1 Γ1 e1 o1 q1 => ?_) hX
  obtain ⟨Hi2, e2, c2, h2⟩ := o1.hold
  obtain ⟨d, b1, t1, q2⟩ := h2.read c2 q1
  have f2 := e1.trans e2
  refine ⟨tyV_of c2.imm b1 t1, ha C Hi2 σ H1 Γ1 _ _ Xd c2 q2 (fun vs rs H3 Hi3 Γ3 e3 c3 h3 q3 => ?_) fun x c d H' Hi' Γ' e' => hX x c d H' Hi' Γ' (f2.trans e')⟩
  obtain ⟨d', b3, q4⟩ := (h2.mono e3).read c3 q3
  obtain ⟨ds, bs, q5⟩ := h3.read c3 q4
  exact h c3 b3 bs q5 fun v r H' Hi' e o q => hQ v r H' Hi' Γ3 ((f2.trans e3).trans e) o q
theorem de_mr {o e : Expr} {es : List Expr} {to : TE} {wo : WE} {t : TA} {wa : WA} {name : Str} {apos cpos : Pos} {T id : String} {r : V → List V → Hp → VK → Prop} {f : OpMR} (hK : X.K = G.K) (pa : PlainAttrs T) (slot : Slot T name id) (hty : typeOf (.builtin id) = pure (.type "method_descriptor")) (hm : MtR X id r) (hs' : SemMR G r f) (ho : DE X G W o to wo) (ha : DA X G W (e :: es) t wa)
    (h1 : attributeBase o name X.env (eval o X.env) = eval o X.env := by rfl)
    (h2 : ((backTo cpos (starEach (e :: es) X.env)).all (fun x => !x.1) && (backToKw cpos (keywordEach [] X.env)).all (fun x => x.1.isSome)
      && decide ((e :: es).length + ([] : List Keyword).length + (if ([] : List Keyword).isEmpty then 0 else 1) < 30)) = true := by rfl)
    (h3 : (apos.endLine == cpos.line) = true := by rfl) (h4 : starEach (e :: es) X.env = (false, eval e X.env) :: starEach es X.env := by rfl) (h5 : (backTo cpos (starEach es X.env)).any (·.1) = false := by rfl) :
    DE X G W (.Call (.Attribute o name apos) (e :: es) [] cpos) (tBM G.K T r to t) (wMR T f wo wa) := ⟨by rw [← hK]; exact pe_bm pa slot hty hm ho.pe ha.pe h1 h2 h3 h4 h5, sim_mr hs' ho.sim ha.sim⟩
def oCnt : OpMR := fun d ds k => match ds with
  | [e] => isL d fun l => isI e fun i => ∃ ns : List Int, l = ns.map .int ∧ k (.sh (.int (ns.count i : Nat)))
  | _ => False
@[simp ↓] theorem ev_wMR (T : String) (o : OpMR) (wo : WE) (wa : WA) (Γ : Ev) (Q : R → Ev → Prop) (X : XW) : wMR T o wo wa Γ Q X = (wo Γ (fun r Γ1 => rdW r Γ1 fun d => tyD T d ∧ wa Γ1 (fun rs Γ2 => rdW r Γ2 fun d => rdAll rs Γ2 fun ds => o d ds fun r' => Q r' Γ2) X) X) := rfl
@[simp ↓] theorem ev_wMR0 (T : String) (o : OpMR) (wo : WE) (Γ : Ev) (Q : R → Ev → Prop) (X : XW) : wMR0 T o wo Γ Q X = (wo Γ (fun r Γ1 => rdW r Γ1 fun d => tyD T d ∧ o d [] fun r' => Q r' Γ1) X) := rfl
@[simp] theorem tyD_l (l : List D) : tyD "list" (.list l) = True := by simp [tyD]
@[simp] theorem tyD_s (l : Str) : tyD "str" (.str l) = True := by simp [tyD]
@[simp ↓] theorem ev_cnt (l : List D) (i : Int) (k : R → Prop) : oCnt (.list l) [.int i] k = ∃ ns : List Int, l = ns.map .int ∧ k (.sh (.int (ns.count i : Nat))) := rfl
@[simp ↓] theorem ev_sortset (l : List D) (k : R → Prop) : oSortSet (.list l) k = ∃ ns : List Int, l = ns.map .int ∧ ns.length < 63 ∧ ∀ ns' : List Int, ns'.Pairwise (· < ·) → (∀ x, x ∈ ns' ↔ x ∈ ns) → k (.ow (.list (ns'.map .int))) := rfl
end
end VL

set_option Elab.async false
set_option linter.all false
set_option maxRecDepth 100000
namespace SC
open PySem L2 VL

end SC

set_option Elab.async false
set_option linter.all false
set_option maxRecDepth 100000
namespace SC
open PySem L2 VL

def WD (ps : List (D × D)) : Prop := ∀ p ∈ ps, ∃ (nm : Str) (i : Int), p = (.str nm, .int i) ∧ nameB nm = true ∧ 0 ≤ i ∧ i ≤ 1000000000000
def gw (ps : List (D × D)) (nm : Str) : Int := match dget ps (.str nm) with
  | some (.int i) => i
  | _ => 0
theorem dget_mem {ps : List (D × D)} {k v : D} (h : dget ps k = some v) : ∃ p ∈ ps, p.2 = v := by
  unfold dget at h
  cases e : ps.find? fun p => keyEq p.1 k with
  | none => rw [e] at h; cases h
  | some p =>
    rw [e] at h
    exact ⟨p, List.mem_of_find?_eq_some e, Option.some.inj h⟩
theorem WD.get {ps : List (D × D)} (h : WD ps) {k v : D} (e : dget ps k = some v) : ∃ i : Int, v = .int i ∧ 0 ≤ i ∧ i ≤ 1000000000000 := by
  obtain ⟨p, hp, rfl⟩ := dget_mem e
  obtain ⟨nm, i, rfl, _, h0, h1⟩ := h p hp
  exact ⟨i, rfl, h0, h1⟩
theorem WD.getD {ps : List (D × D)} (h : WD ps) (nm : Str) : (dget ps (.str nm)).getD (.int 0) = .int (gw ps nm) ∧ 0 ≤ gw ps nm ∧ gw ps nm ≤ 1000000000000 := by
  unfold gw
  cases e : dget ps (.str nm) with
  | none => exact ⟨rfl, by decide, by decide⟩
  | some v =>
    obtain ⟨i, rfl, h0, h1⟩ := h.get e
    exact ⟨rfl, h0, h1⟩
theorem WD.put {ps : List (D × D)} (h : WD ps) {nm : Str} {i : Int} (hn : nameB nm = true) (h0 : 0 ≤ i) (h1 : i ≤ 1000000000000) : WD (dput ps (.str nm) (.int i)) := by
  intro p hp
  unfold dput at hp
  split at hp
  · obtain ⟨q, hq, rfl⟩ := List.mem_map.mp hp
    obtain ⟨m, j, rfl, a, b, c⟩ := h q hq
    split
    · exact ⟨m, i, rfl, a, h0, h1⟩
    · exact ⟨m, j, rfl, a, b, c⟩
  · rcases List.mem_append.mp hp with z | z
    · exact h p z
    · have : p = (.str nm, .int i) := by simpa using z
      exact ⟨nm, i, this, hn, h0, h1⟩
@[simp] theorem ev_wLcK (i : Nat) (vs : List Nat) (g : WG) (t : WT) (w : WE) (Γ : Ev) (Q : R → Ev → Prop) (X : XW) (ps : List (D × D)) (h : Γ[i]? = some (.sh (.dict ps))) :
    wLcK i vs g t w Γ Q X = ((∀ p ∈ ps, fltP p.2) ∧ okW (ΓK Γ i ps) vs ∧ lcW vs g t w (fun acc _ => (∀ e ∈ acc, fltP e) ∧ Q (.ow (.list acc)) Γ) (ps.map (·.1)) [] (wipeE (ΓK Γ i ps) vs)) := by
  unfold wLcK
  rw [h]
end SC

set_option Elab.async false
set_option linter.all false
set_option maxRecDepth 100000
namespace SC
open PySem L2 VL

section
variable {l : List It} {n : Nat}
end
end SC

set_option Elab.async false
set_option linter.all false
set_option maxRecDepth 100000
namespace SC
open PySem L2 VL

def entD (q : Nat × Int) : D := .tuple [.int (q.1 : Int), .int q.2]
def aD (a : Act) : List D := a.map entD
def stD (p : Nat) (a : Act) : D := .tuple [.int (p : Int), .list (aD a)]
theorem aD_length (a : Act) : (aD a).length = a.length := List.length_map _
theorem layA : ∀ a : Act, PyData.canLayAll0 (aD a) = true
  | [] => rfl
  | q :: a => by
    have := layA a
    unfold aD at this ⊢
    rw [List.map_cons]
    simp [PyData.canLayAll0, PyData.canLay0, entD, this]
theorem depA : ∀ a : Act, PyData.depthAll (aD a) ≤ 3
  | [] => by simp [aD, PyData.depthAll]
  | q :: a => by
    have := depA a
    unfold aD at this ⊢
    rw [List.map_cons]
    simp only [PyData.depthAll, PyData.depth, entD]
    omega
theorem shA (a : Act) : SeqAt.shaped (.list (aD a)) = true := by
  unfold SeqAt.shaped
  have := depA a
  simp only [PyData.canLay0, layA a, PyData.depth, Bool.true_and]
  exact decide_eq_true (by omega)
theorem eqvAll_aD : ∀ a b : Act, PyData.eqvAll (aD a) (aD b) = decide (a = b)
  | [], [] => rfl
  | [], q :: b => rfl
  | q :: a, [] => rfl
  | (r, c) :: a, (s, d) :: b => by
    have ih := eqvAll_aD a b
    unfold aD at ih ⊢
    rw [List.map_cons, List.map_cons]
    simp only [PyData.eqvAll, PyData.eqv, entD, ih]
    by_cases h1 : r = s <;> by_cases h2 : c = d <;> simp [h1, h2] <;> omega
theorem eqvA (a b : Act) : PyData.eqv (.list (aD a)) (.list (aD b)) = decide (a = b) := by
  simp only [PyData.eqv]; exact eqvAll_aD a b
theorem eqvA0 (a : Act) : PyData.eqv (.list (aD a)) (.list []) = decide (a = []) := eqvA a []
theorem shNil : SeqAt.shaped (.list []) = true := shA []
def fs_is_active_entry : FS := fun io ds Q _ => io = none ∧ ∃ (l : List It) (r : Nat) (c : Int), ds = [.list (sc l), entD (r, c)] ∧ isRep l r = true ∧ 1 ≤ c ∧ c ≤ cof l r ∧ Q (.sh (.bool true)) none
def w_is_active_entry : WS := wSeq (wIfS (wOr (wNot (wT (wIsi "tuple" (wVar 1)))) (wOr (wT (wOp oNe (wCB (o1 oLen) (wCons (wVar 1) (wNil))) (wC (.int 2)))) (wNot (wT (wCall fs_is_repeat [] (wCons (wVar 0) (wCons (wOp oIx (wVar 1) (wC (.int 0))) (wNil)))))))) (wRet (wC (.bool false))) (wNext)) (wRet (wCall fs_is_integer [] (wCons (wOp oIx (wVar 1) (wC (.int 1))) (wCons (wC (.int 1)) (wCons (wOp oIx (wOp oIx (wVar 0) (wOp oIx (wVar 1) (wC (.int 0)))) (wC (.int 2))) (wNil))))))
theorem fv_is_active_entry : FnV fs_is_active_entry 2 w_is_active_entry := by
  rintro io ds Q X ⟨rfl, l, r, c, rfl, hr, c1, c2, q⟩
  obtain ⟨n, cc, e⟩ := isRep_iff.mp hr
  have ec : cof l r = cc := by simp [cof, e]
  rw [ec] at c2
  show w_is_active_entry [.sh (.list (sc l)), .sh (entD (r, c))] _ _
  simp [w_is_active_entry, entD, shaped_int, eqv_int]
  refine ⟨rfl, l, r, n, cc, rfl, e, ?_⟩
  have ix := fun k => ix_lnE (k := k) (sc_get e)
  simp [ix, It.d]
  refine ⟨rfl, _, _, _, rfl, .inr ⟨_, rfl⟩, ?_⟩
  have : isIntD (.int c) 1 (.int cc) = true := by simp [isIntD]; omega
  rw [this]
  simp
  exact q
def fs_is_state_of : FS := fun io ds Q _ => io = none ∧ ∃ (l : List It) (p : Nat) (a : Act), ds = [.list (sc l), stD p a] ∧ ok [] l ∧ l.length ≤ 1000 ∧ p ≤ l.length ∧ Vs l p p a ∧ Q (.sh (.bool true)) none
def w_is_state_of : WS := wSeq (wIfS (wOr (wNot (wT (wIsi "tuple" (wVar 1)))) (wOr (wT (wOp oNe (wCB (o1 oLen) (wCons (wVar 1) (wNil))) (wC (.int 2)))) (wNot (wT (wCall fs_is_integer [] (wCons (wOp oIx (wVar 1) (wC (.int 0))) (wCons (wC (.int 0)) (wCons (wCB (o1 oLen) (wCons (wVar 0) (wNil))) (wNil))))))))) (wRet (wC (.bool false))) (wNext)) (wSeq (wAsg (wVar 1) (wgTup 2 (wgCons (wgName 2) (wgCons (wgName 3) (wgNil))))) (wSeq (wIfS (wOr (wNot (wT (wIsi "list" (wVar 3)))) (wNot (wT (wCB (o1 oAll) (wCons (wLc [9] (wiL (wVar 3)) (wgName 9) (wYes) (wCall fs_is_active_entry [] (wCons (wVar 0) (wCons (wVar 9) (wNil))))) (wNil)))))) (wRet (wC (.bool false))) (wNext)) (wSeq (wSet 4 (wCall fs_segment_starts [] (wCons (wVar 0) (wNil)))) (wSeq (wPar [5, 6] (wsCons (wVar 2) (wsCons (wVar 2) (wsNil)))) (wSeq (wFor (wiL (wVar 3)) (wgTup 2 (wgCons (wgName 7) (wgCons (wgName 8) (wgNil)))) (wSeq (wIfS (wOr (wT (wOp (oIB fun i j => decide (i < j)) (wVar 7) (wVar 6))) (wT (wOp (oIB fun i j => decide (j < i)) (wOp oIx (wVar 4) (wVar 7)) (wVar 5)))) (wRet (wC (.bool false))) (wNext)) (wPar [5, 6] (wsCons (wVar 7) (wsCons (wOp oAdd (wVar 7) (wC (.int 1))) (wsNil)))))) (wRet (wC (.bool true))))))))
theorem Vs_mem {L : List It} {ins m : Nat} : ∀ {a : Act}, Vs L ins m a → ∀ q ∈ a, isRep L q.1 = true ∧ 1 ≤ q.2 ∧ q.2 ≤ cof L q.1
  | [], _, q, hq => nomatch hq
  | q :: a, ⟨⟨h1, h2, h3, h4, h5⟩, h6⟩, x, hx => by
    rcases List.mem_cons.mp hx with rfl | hx
    · exact ⟨h1, h4, h5⟩
    · exact Vs_mem h6 x hx
theorem Vs_at {L : List It} {ins m : Nat} : ∀ {a : Act}, Vs L ins m a → ∀ (i : Nat) (q : Nat × Int), a[i]? = some q → eM m (a.take i) ≤ q.1 ∧ stt L q.1 ≤ eI ins (a.take i) ∧ eI ins (a.take (i + 1)) = q.1 ∧ eM m (a.take (i + 1)) = q.1 + 1
  | [], _, i, q, hq => by simp at hq
  | x :: a, ⟨⟨h1, h2, h3, h4, h5⟩, h6⟩, 0, q, hq => by
    have : x = q := by simpa using hq
    subst this
    exact ⟨h2, h3, rfl, rfl⟩
  | x :: a, ⟨⟨h1, h2, h3, h4, h5⟩, h6⟩, i + 1, q, hq => Vs_at h6 i q (by simpa using hq)
theorem fv_is_state_of : FnV fs_is_state_of 10 w_is_state_of := by
  rintro io ds Q X ⟨rfl, l, p, a, rfl, h, hl, hp, v, q⟩
  have hal := Vs_len v hp
  show w_is_state_of [.sh (.list (sc l)), .sh (stD p a), .no, .no, .no, .no, .no, .no, .no, .no] _ _
  simp [w_is_state_of, stD, shaped_int, eqv_int, ev_wLc, okW, wipeE]
  refine ⟨rfl, _, _, _, rfl, .inr ⟨_, rfl⟩, ?_⟩
  have : isIntD (.int (p : Int)) 0 (.int ((sc l).length : Int)) = true := by rw [sc_length]; simp [isIntD]; omega
  rw [this]
  simp
  refine lcm_map a entD (fun _ => .bool true) (by omega) (fun x acc k hm hz hk => ?_) ?_
  · obtain ⟨m1, m2, m3⟩ := Vs_mem v x hm
    simp [lcT, wipeE]
    refine ⟨rfl, l, x.1, x.2, rfl, m1, m2, m3, ?_⟩
    simp
    exact ⟨hz, hk⟩
  · simp [restE]
    refine ⟨a.map fun _ => true, by rw [List.map_map]; rfl, ?_⟩
    have : (a.map fun _ => true).all id = true := List.all_eq_true.mpr fun b hb => by
      obtain ⟨_, _, rfl⟩ := List.mem_map.mp hb
      rfl
    rw [this]
    simp
    refine ⟨rfl, l, rfl, h, hl, fun sps hSS => ?_⟩
    simp
    refine loop_inv (fun i Γ => ∃ a7 a8 : Sl, Γ = [.sh (.list (sc l)), .sh (.tuple [.int (p : Int), .list (aD a)]), .sh (.int (p : Int)), .sh (.list (aD a)), .ow (.dict sps), .sh (.int ((eI p (a.take i) : Nat) : Int)), .sh (.int ((eM p (a.take i) : Nat) : Int)), a7, a8, .no]) ⟨_, _, rfl⟩ ?_ ?_
    · rintro i d Γ k hd ⟨a7, a8, rfl⟩ hk
      unfold aD at hd
      rw [List.getElem?_map] at hd
      cases eq : a[i]? with
      | none => rw [eq] at hd; cases hd
      | some x =>
        rw [eq] at hd
        cases (Option.some.inj hd)
        obtain ⟨t1, t2, t3, t4⟩ := Vs_at v i x eq
        have hm := Vs_mem v x (List.mem_of_getElem? eq)
        obtain ⟨n, c, e⟩ := isRep_iff.mp hm.1
        obtain ⟨j, j1, j2, j3⟩ := hSS x.1 n c e
        have hst := stt_eq h e j2
        have n1 : ¬ ((x.1 : Int) < ((eM p (a.take i) : Nat) : Int)) := by omega
        have n2 : ¬ (((eI p (a.take i) : Nat) : Int) < (j : Int) + 1) := by omega
        simp [entD, ev_ixd, j3, n1, n2]
        refine hk _ ⟨.sh (.int (x.1 : Int)), .sh (.int x.2), ?_⟩
        rw [t3, t4, Int.natCast_add]
        rfl
    · rintro Γ ⟨a7, a8, rfl⟩
      simp
      exact q
def fs_require_state : FS := fun io ds Q _ => io = none ∧ ∃ (l : List It) (p : Nat) (a : Act), ds = [.list (sc l), stD p a] ∧ ok [] l ∧ l.length ≤ 1000 ∧ p ≤ l.length ∧ Vs l p p a ∧ Q (.sh .none) none
def w_require_state : WS := wIfS (wNot (wT (wCall fs_is_state_of [] (wCons (wVar 0) (wCons (wVar 1) (wNil)))))) (wNev) (wNext)
theorem fv_require_state : FnV fs_require_state 2 w_require_state := by
  rintro io ds Q X ⟨rfl, l, p, a, rfl, h, hl, hp, v, q⟩
  show w_require_state [.sh (.list (sc l)), .sh (stD p a)] _ _
  simp [w_require_state]
  refine ⟨rfl, l, p, a, rfl, h, hl, hp, v, ?_⟩
  simp
  exact q
def cH (p : Nat) : Act → Int × Act
  | [] => (0, [])
  | q :: a => if q.1 = p then (q.2, a) else (0, q :: a)
theorem cut_tail (x : D) (r : List D) : cutD (x :: r) (some 1) none = r := by
  have := cut_drop (l := x :: r) (p := 1) (by simp)
  simpa using this
def nxt (l : List It) (p : Nat) (a : Act) : Str × Nat × Act := match l[p]? with
  | some (.bar _) => ("play", p + 1, a)
  | some (.mark _) => ("pass", p + 1, a)
  | some (.rep _ c) => if (cH p a).1 < c then ("jump", stt l p, (p, (cH p a).1 + 1) :: (cH p a).2) else ("continue", p + 1, (cH p a).2)
  | none => ("continue", p, a)
theorem cH_len (p : Nat) (a : Act) : (cH p a).2.length ≤ a.length := by
  cases a with
  | nil => exact Nat.le_refl _
  | cons q a =>
    simp only [cH]
    split <;> simp
def prv (l : List It) (p : Nat) (a : Act) : Option (Nat × Act) := match a with
  | (r, c) :: a' => if stt l r = p then some (r, (if 1 < c then [(r, c - 1)] else []) ++ a') else if p = 0 then none else some (p - 1, (match l[p - 1]? with
    | some (.rep _ c) => [(p - 1, c)]
    | _ => []) ++ a)
  | [] => if p = 0 then none else some (p - 1, (match l[p - 1]? with
    | some (.rep _ c) => [(p - 1, c)]
    | _ => []) ++ a)
def prvD (l : List It) (p : Nat) (a : Act) : D := match prv l p a with
  | none => .none
  | some x => stD x.1 x.2
end SC

set_option Elab.async false
set_option linter.all false
set_option maxRecDepth 100000
namespace SC
open PySem L2 VL

end SC

set_option Elab.async false
set_option linter.all false
set_option maxRecDepth 100000
namespace SC
open PySem L2 VL

theorem cof_nn {l : List It} (h : ok [] l) (j : Nat) : 0 ≤ cof l j := by
  unfold cof
  split
  · rename_i n c e
    have := ok_count h e
    omega
  · decide
end SC

set_option Elab.async false
set_option linter.all false
set_option maxRecDepth 100000
namespace SC
open PySem L2 VL

theorem eqvAll_strs : ∀ a b : List Str, PyData.eqvAll (a.map .str) (b.map .str) = decide (a = b)
  | [], [] => by simp [PyData.eqvAll]
  | [], _ :: _ => by simp [PyData.eqvAll]
  | _ :: _, [] => by simp [PyData.eqvAll]
  | x :: a, y :: b => by
    rw [List.map_cons, List.map_cons, PyData.eqvAll, eqvAll_strs a b, eqv_str]
    by_cases h : x = y
    · subst h; simp
    · simp [h]
theorem eqv_strs (a b : List Str) : PyData.eqv (.list (a.map .str)) (.list (b.map .str)) = decide (a = b) := by
  rw [PyData.eqv]
  exact eqvAll_strs a b
end SC

set_option Elab.async false
set_option linter.all false
set_option maxRecDepth 100000
namespace SC
open PySem L2 VL

section
variable {l : List It}
theorem cH_ok (h : ok [] l) {p : Nat} {a : Act} (v : Vs l p p a) : (0 ≤ (cH p a).1 ∧ (cH p a).1 ≤ cof l p) ∧ Vs l p (p + 1) (cH p a).2 ∧ (∀ w, aw w a = (cH p a).1 * w p + aw w (cH p a).2) ∧ a = (if (cH p a).1 = 0 then [] else [(p, (cH p a).1)]) ++ (cH p a).2 := by
  cases a with
  | nil => exact ⟨⟨Int.le_refl _, cof_nn h p⟩, True.intro, fun w => by simp [cH, aw_nil], rfl⟩
  | cons q a =>
    obtain ⟨r, c⟩ := q
    obtain ⟨⟨h1, h2, h3, h4, h5⟩, h6⟩ := v
    by_cases z : r = p
    · subst z
      have e : cH r ((r, c) :: a) = (c, a) := by simp [cH]
      rw [e]
      refine ⟨⟨by show (0 : Int) ≤ c; have : 1 ≤ c := h4; omega, h5⟩, h6, fun w => aw_cons w _ _, ?_⟩
      have : ¬ c = 0 := by have : 1 ≤ c := h4; omega
      simp [this]
    · have e : cH p ((r, c) :: a) = (0, (r, c) :: a) := by simp [cH, z]
      rw [e]
      have h2 : p ≤ r := h2
      exact ⟨⟨Int.le_refl _, cof_nn h p⟩, ⟨⟨h1, by show p + 1 ≤ r; omega, h3, h4, h5⟩, h6⟩, fun w => by simp, by simp⟩
def Pt (l : List It) : Nat → Int
  | 0 => 0
  | n + 1 => Pt l n + 1 + (if isRep l n = true then cof l n * (1 + Pt l n) else 0)
def pw (l : List It) (r : Nat) : Int := 1 + Pt l r
def Wp (l : List It) (p : Nat) (a : Act) : Int := Pt l p + aw (pw l) a
theorem Pt_nn (h : ok [] l) : ∀ n, 0 ≤ Pt l n
  | 0 => Int.le_refl _
  | n + 1 => by
    have h1 := Pt_nn h n
    have h2 := Int.mul_nonneg (cof_nn h n) (show 0 ≤ 1 + Pt l n by omega)
    show 0 ≤ Pt l n + 1 + _
    split <;> omega
theorem Pt_succ (h : ok [] l) (n : Nat) : Pt l n + 1 ≤ Pt l (n + 1) := by
  have h1 := Pt_nn h n
  have h2 := Int.mul_nonneg (cof_nn h n) (show 0 ≤ 1 + Pt l n by omega)
  show _ ≤ Pt l n + 1 + _
  split <;> omega
theorem Pt_rep (h : ok [] l) {r : Nat} (hr : isRep l r = true) : 0 ≤ pw l r ∧ Pt l r + cof l r * pw l r + 1 = Pt l (r + 1) := by
  have h1 := Pt_nn h r
  refine ⟨by unfold pw; omega, ?_⟩
  show _ = Pt l r + 1 + (if isRep l r = true then cof l r * (1 + Pt l r) else 0)
  rw [if_pos hr]
  unfold pw
  omega
theorem Vs_end {a : Act} (v : Vs l l.length l.length a) : a = [] := by
  have := Vs_len v (Nat.le_refl _)
  exact List.length_eq_zero_iff.mp (by omega)
theorem on_ok (h : ok [] l) {p : Nat} {a : Act} (hp : p < l.length) (v : Vs l p p a) : Vs l (p + 1) (p + 1) (cH p a).2 ∧ Wp l p a + 1 ≤ Wp l (p + 1) (cH p a).2 := by
  obtain ⟨⟨c0, c1⟩, v1, e, _⟩ := cH_ok h v
  refine ⟨v1.out (Nat.le_succ _), ?_⟩
  unfold Wp
  rw [e]
  by_cases hr : isRep l p = true
  · obtain ⟨w0, w1⟩ := Pt_rep h hr
    have := Int.mul_le_mul_of_nonneg_right c1 w0
    omega
  · have hr : isRep l p = false := by simpa using hr
    have : (cH p a).1 = 0 := by
      cases a with
      | nil => rfl
      | cons q a =>
        have : q.1 ≠ p := fun z => by
          have := v.1.1
          rw [z, hr] at this; cases this
        simp [cH, this]
    rw [this]
    have := Pt_succ h p
    omega
theorem cH_flat {p : Nat} {a : Act} (hr : isRep l p = false) (v : Vs l p p a) : cH p a = (0, a) := by
  cases a with
  | nil => rfl
  | cons q a =>
    have : q.1 ≠ p := fun z => by
      have := v.1.1
      rw [z, hr] at this; cases this
    simp [cH, this]
theorem nxt_ok (h : ok [] l) {p : Nat} {a : Act} (hp : p < l.length) (v : Vs l p p a) : (nxt l p a).2.1 ≤ l.length ∧ Vs l (nxt l p a).2.1 (nxt l p a).2.1 (nxt l p a).2.2 ∧ Wp l p a + 1 ≤ Wp l (nxt l p a).2.1 (nxt l p a).2.2 := by
  have ei := List.getElem?_eq_getElem hp
  have on := on_ok h hp v
  unfold nxt
  cases c : l[p] with
  | bar m =>
    rw [c] at ei
    rw [ei]
    rw [cH_flat (by unfold isRep; rw [ei]) v] at on
    exact ⟨hp, on⟩
  | mark m =>
    rw [c] at ei
    rw [ei]
    rw [cH_flat (by unfold isRep; rw [ei]) v] at on
    exact ⟨hp, on⟩
  | rep m cc =>
    rw [c] at ei
    rw [ei]
    dsimp only
    by_cases z : (cH p a).1 < cc
    · rw [if_pos z]
      have hr : isRep l p = true := isRep_iff.mpr ⟨m, cc, ei⟩
      obtain ⟨⟨c0, c1⟩, v1, e, _⟩ := cH_ok h v
      obtain ⟨s1, s2, n', c', e1, e2, e3⟩ := stt_rep h hr
      rw [ei] at e1; cases e1
      refine ⟨by show stt l p ≤ _; omega, ⟨⟨hr, s2, Nat.le_refl _, by show 1 ≤ (cH p a).1 + 1; omega, by show (cH p a).1 + 1 ≤ cof l p; omega⟩, v1⟩, ?_⟩
      show _ ≤ Wp l (stt l p) ((p, (cH p a).1 + 1) :: (cH p a).2)
      unfold Wp
      rw [e, aw_cons]
      show _ ≤ _ + (((cH p a).1 + 1) * pw l p + _)
      rw [Int.add_mul, Int.one_mul]
      have := Pt_nn h (stt l p)
      have : pw l p = 1 + Pt l p := rfl
      omega
    · rw [if_neg z]
      exact ⟨hp, on⟩
end
end SC

set_option Elab.async false
set_option linter.all false
set_option maxRecDepth 100000
namespace SC
open PySem L2 VL
section
variable {l : List It}
theorem Vs_in {p q : Nat} : ∀ {a : Act}, Vs l (p + 1) q a → (∀ r c a', a = (r, c) :: a' → stt l r ≠ p + 1) → Vs l p q a
  | [], _, _ => True.intro
  | (r, c) :: a, ⟨⟨h1, h2, h3, h5⟩, h4⟩, hn => ⟨⟨h1, h2, by
    have := hn r c a rfl
    have h3 : stt l r ≤ p + 1 := h3
    show stt l r ≤ p
    omega, h5⟩, h4⟩
theorem prv_on {p : Nat} {a : Act} (hn : ∀ r c a', a = (r, c) :: a' → stt l r ≠ p + 1) : prv l (p + 1) a = some (p, (match l[p]? with
    | some (.rep _ c) => [(p, c)]
    | _ => []) ++ a) := by
  cases a with
  | nil =>
    unfold prv
    simp
    all_goals (rcases l[p]? with _ | (_ | _ | _) <;> rfl)
  | cons q a =>
    obtain ⟨r, c⟩ := q
    unfold prv
    simp [hn r c a rfl]
    all_goals (rcases l[p]? with _ | (_ | _ | _) <;> rfl)
theorem prv_nxt (h : ok [] l) {p : Nat} {a : Act} (hp : p < l.length) (v : Vs l p p a) : prv l (nxt l p a).2.1 (nxt l p a).2.2 = some (p, a) := by
  have ei := List.getElem?_eq_getElem hp
  have hh : ∀ {b : Act}, Vs l p (p + 1) b → ∀ r c a', b = (r, c) :: a' → stt l r ≠ p + 1 := fun {b} vb r c a' e => by
    subst e
    have := vb.1.2.2.1
    have this : stt l r ≤ p := this
    omega
  unfold nxt
  cases c : l[p] with
  | bar m =>
    rw [c] at ei
    rw [ei]
    have := prv_on (l := l) (hh (v.up (bar_rep ei)))
    rw [ei] at this
    exact this
  | mark m =>
    rw [c] at ei
    rw [ei]
    have := prv_on (l := l) (hh (v.up (by unfold isRep; rw [ei])))
    rw [ei] at this
    exact this
  | rep m cc =>
    rw [c] at ei
    rw [ei]
    dsimp only
    have hr : isRep l p = true := isRep_iff.mpr ⟨m, cc, ei⟩
    obtain ⟨⟨c0, c1⟩, v1, _, ea⟩ := cH_ok h v
    have hcof : cof l p = cc := by simp [cof, ei]
    by_cases z : (cH p a).1 < cc
    · rw [if_pos z]
      show prv l (stt l p) ((p, (cH p a).1 + 1) :: (cH p a).2) = _
      have e1 : prv l (stt l p) ((p, (cH p a).1 + 1) :: (cH p a).2) = some (p, (if 1 < (cH p a).1 + 1 then [(p, (cH p a).1 + 1 - 1)] else []) ++ (cH p a).2) := by
        unfold prv
        simp
      rw [e1]
      have e2 : (if 1 < (cH p a).1 + 1 then [(p, (cH p a).1 + 1 - 1)] else []) ++ (cH p a).2 = a := by
        rw [show (cH p a).1 + 1 - 1 = (cH p a).1 by omega]
        by_cases y : (cH p a).1 = 0
        · rw [if_neg (by omega)]
          rw [if_pos y] at ea
          exact ea.symm
        · rw [if_pos (by omega)]
          rw [if_neg y] at ea
          exact ea.symm
      rw [e2]
    · rw [if_neg z]
      have := prv_on (l := l) (hh v1)
      rw [ei] at this
      show prv l (p + 1) (cH p a).2 = _
      rw [this]
      have hk : (cH p a).1 = cc := by omega
      have hc1 := ok_count h ei
      rw [if_neg (by omega), hk] at ea
      show some (p, [(p, cc)] ++ (cH p a).2) = _
      rw [← ea]
theorem nxt_prv (h : ok [] l) {p p1 : Nat} {a a1 : Act} (hp : p ≤ l.length) (v : Vs l p p a) (e : prv l p a = some (p1, a1)) : p1 < l.length ∧ Vs l p1 p1 a1 ∧ (nxt l p1 a1).2 = (p, a) := by
  by_cases hj : ∃ r c a', a = (r, c) :: a' ∧ stt l r = p
  · obtain ⟨r, c, a', rfl, hs⟩ := hj
    have e1 : prv l p ((r, c) :: a') = some (r, (if 1 < c then [(r, c - 1)] else []) ++ a') := by unfold prv; simp [hs]
    rw [e1] at e
    injection e with e
    injection e with ea eb
    subst ea eb
    obtain ⟨⟨h1, h2, h3, h4, h5⟩, h6⟩ := v
    have h1 : isRep l r = true := h1
    have h4 : 1 ≤ c := h4
    have h5 : c ≤ cof l r := h5
    have hrl := rep_lt h1
    obtain ⟨s1, s2, n, cc, e2, e3, e4⟩ := stt_rep h h1
    have hv : Vs l r r ((if 1 < c then [(r, c - 1)] else []) ++ a') := by
      by_cases z : 1 < c
      · rw [if_pos z]
        exact ⟨⟨h1, Nat.le_refl _, s2, by show 1 ≤ c - 1; omega, by show c - 1 ≤ cof l r; omega⟩, h6⟩
      · rw [if_neg z]
        exact Vs.weak (Nat.le_succ r) h6
    have hcH : cH r ((if 1 < c then [(r, c - 1)] else []) ++ a') = (c - 1, a') := by
      by_cases z : 1 < c
      · rw [if_pos z]; simp [cH]
      · rw [if_neg z, show c - 1 = 0 by omega]
        cases a' with
        | nil => rfl
        | cons q b =>
          have : r + 1 ≤ q.1 := h6.1.2.1
          have : q.1 ≠ r := by omega
          simp [cH, this]
    refine ⟨hrl, hv, ?_⟩
    unfold nxt
    rw [e2]
    dsimp only
    rw [hcH, if_pos (by show c - 1 < cc; omega)]
    show (stt l r, (r, c - 1 + 1) :: a') = _
    rw [hs, show c - 1 + 1 = c by omega]
  · have hn : ∀ r c a', a = (r, c) :: a' → stt l r ≠ p := fun r c a' ea z => hj ⟨r, c, a', ea, z⟩
    cases p with
    | zero =>
      exfalso
      cases a with
      | nil => unfold prv at e; simp at e
      | cons q b =>
        obtain ⟨r, c⟩ := q
        obtain ⟨⟨h1, h2, h3, _⟩, _⟩ := v
        obtain ⟨s1, _⟩ := stt_rep h h1
        have h3 : stt l r ≤ 0 := h3
        have s1 : 1 ≤ stt l r := s1
        omega
    | succ q =>
      rw [prv_on hn] at e
      injection e with e
      injection e with ea eb
      subst ea eb
      have hql : q < l.length := by omega
      have ei := List.getElem?_eq_getElem hql
      have v1 := Vs_in v hn
      refine ⟨hql, ?_⟩
      unfold nxt
      cases c : l[q] with
      | bar m =>
        rw [c] at ei
        rw [ei]
        exact ⟨v1.weak (Nat.le_succ q), rfl⟩
      | mark m =>
        rw [c] at ei
        rw [ei]
        exact ⟨v1.weak (Nat.le_succ q), rfl⟩
      | rep m cc =>
        rw [c] at ei
        rw [ei]
        have hr : isRep l q = true := isRep_iff.mpr ⟨m, cc, ei⟩
        obtain ⟨s1, s2, n', c', e1, e2, e3⟩ := stt_rep h hr
        rw [ei] at e1; cases e1
        have hc := ok_count h ei
        refine ⟨⟨⟨hr, Nat.le_refl _, s2, by show 1 ≤ cc; omega, by show cc ≤ cof l q; omega⟩, v1⟩, ?_⟩
        dsimp only
        have : cH q ([(q, cc)] ++ a) = (cc, a) := by simp [cH]
        rw [this, if_neg (by simp)]
theorem prv_none (h : ok [] l) {p : Nat} {a : Act} (v : Vs l p p a) : prv l p a = none ↔ p = 0 ∧ a = [] := by
  constructor
  · intro e
    cases a with
    | nil =>
      unfold prv at e
      by_cases z : p = 0
      · exact ⟨z, rfl⟩
      · simp [z] at e
    | cons q b =>
      obtain ⟨r, c⟩ := q
      unfold prv at e
      by_cases y : stt l r = p
      · simp [y] at e
      · by_cases z : p = 0
        · exfalso
          subst z
          obtain ⟨⟨h1, h2, h3, _⟩, _⟩ := v
          obtain ⟨s1, _⟩ := stt_rep h h1
          have h3 : stt l r ≤ 0 := h3
          have s1 : 1 ≤ stt l r := s1
          omega
        · simp [y, z] at e
  · rintro ⟨rfl, rfl⟩
    rfl
end
end SC

set_option Elab.async false
set_option linter.all false
set_option maxRecDepth 100000
namespace SC
open PySem L2 VL

def nameD : D → Bool
  | .str s => nameB s
  | _ => false
def nmOk (d : D) : Prop := ∀ s, d = .str s → s.length ≤ 1000000
def itemD (d : D) (ps : List (D × D)) : Bool := match d with
  | .tuple [a, b] => nameD b && (PyData.eqv a (.str "bar") || (PyData.eqv a (.str "mark") && !(dget ps b).isSome))
  | .tuple [a, b, c] => nameD b && (PyData.eqv a (.str "repeat") && ((dget ps b).isSome && isIntD c 1 .none))
  | _ => false
def itOk (d : D) : Prop := ∀ l, d = .tuple l → ∀ x ∈ l, SeqAt.shaped x = true ∧ nmOk x
def markD : D → Bool
  | .tuple (a :: _) => PyData.eqv a (.str "mark")
  | _ => false
def nmD1 : D → D
  | .tuple (_ :: b :: _) => b
  | _ => .none
def scoreL : List D → List (D × D) → Nat → Bool
  | [], _, _ => true
  | d :: r, ps, n => itemD d ps && scoreL r (if markD d then dput ps (nmD1 d) (.int (n : Int)) else ps) (n + 1)
def scoreD (d : D) : Bool := match d with
  | .list l => scoreL l [] 0
  | _ => false
def valOk (d : D) : Prop := ∀ l, d = .list l → l.length ≤ 1000 ∧ ∀ x ∈ l, itOk x
end SC

set_option Elab.async false
set_option linter.all false
set_option maxRecDepth 100000
namespace SC
open PySem L2 VL

end SC

set_option Elab.async false
set_option linter.all false
set_option maxRecDepth 100000
namespace SC
open PySem L2 VL

end SC

set_option Elab.async false
set_option linter.all false
set_option maxRecDepth 100000
namespace VL
open PySem L2 PyProof.Rows

def tenP : Nat := 10 ^ 4300
mutual
def ShowB : PyData → Prop
  | .none => True
  | .bool _ => True
  | .str _ => True
  | .int i => i.natAbs < tenP
  | .list xs => ShowBAll xs
  | .tuple xs => ShowBAll xs
  | .dict kvs => ShowBKv kvs
def ShowBAll : List PyData → Prop
  | [] => True
  | x :: xs => ShowB x ∧ ShowBAll xs
def ShowBKv : List (PyData × PyData) → Prop
  | [] => True
  | (k, v) :: r => ShowB k ∧ ShowB v ∧ ShowBKv r
end
section
variable {P : Program} {w : World} {K : Fg} {H : Hp} {h : Heap}
theorem reprK_int {i : Int} (t : Tok) (hn : h.NoDigits) (hi : i.natAbs < tenP) : ReprK P w [] h 0 (.int i t) (PyData.shown (.int i)) := by
  intro base hb A g E s Q hg hcl hu hk hQ
  have hb' : base ≤ sizeLine := by omega
  rw [pyReprUnder_leaf (v := .int i t) hb' (fun _ e => nomatch e)]
  unfold pyRepr
  have hns : s.heap.NoDigits := hn.keeps hk
  refine wpAny_bind (wpAny_pyReprObj_slot (by omega) (typeIs_int _ i t) F.slot_int_repr.toG ?_)
  refine wpAny_call (codeAny_call_builtin F.slot_int_repr.plain F.entry_int_repr (F.slot_int_repr.check _ _ _ _ _ _ _ _ (typeIs_int _ i t) (F.args_int_repr_1 _) ?_))
  unfold Builtin.«int.__repr__»
  show wpAny _ _ (do let r ← Builtin.overDigitLimit? i; _) _ _ s
  refine wpAny_bind (overDigitLimit_any hns (fun hlt => ?_) (fun hge => absurd hi (Nat.not_lt.mpr hge)))
  refine wpAny_bind (wpAny_mkStr (wpAny_pure ⟨_, _, rfl, ?_⟩) (int_text_fits10 hlt))
  have := hQ s.heap (s.toks + 1) fun _ _ e => e
  simp only [PyData.shown] at this
  exact wpAny_pure this
theorem key_read {h : Heap} {k : Key} {u : Value} {d : D} (h1 : keyIs k u = true) (hk : kD k = d) (hs : ShowB d) (hz : (PyData.shown d).length ≤ sizeLine) (hn : h.NoDigits) : ∃ as, Reads h u d as ∧ ReprK P w [] h 0 u (PyData.shown d) := by
  rcases keyIs_shape h1 with ⟨i, t, rfl, rfl⟩ | ⟨x, t, rfl, rfl⟩
  · have hp : d = .int i := hk.symm
    subst hp
    exact ⟨_, .int i t, reprK_int t hn (by simpa only [ShowB] using hs)⟩
  · have hp : d = .str x := hk.symm
    subst hp
    refine ⟨_, .str x t, ?_⟩
    simp only [PyData.shown] at hz ⊢
    exact .of_is (ReprIs.str x t hz) _ _ _
theorem keys_read {h : Heap} (hn : h.NoDigits) {es : List DictEntry} {kvs : List (Key × Value)} (hp : Pairs (mixKind P w) es kvs) : ∀ {ds : List D}, kvs.map (fun p => kD p.1) = ds → ShowBAll ds → (∀ t ∈ PyData.shownAll ds, t.length ≤ sizeLine) →
    ∃ as bs, ReadsAll h (es.map (·.key)) ds as ∧ ReadAtMost h (PyData.depthAll ds) bs ∧ ReprAllK P w bs h (PyData.depthAll ds) (es.map (·.key)) (PyData.shownAll ds) := by
  induction hp with
  | nil =>
    intro ds e hs hz
    subst e
    exact ⟨[], [], .nil, (fun _ q => nomatch q), .nil⟩
  | @cons e kv es kvs h1 h2 r ih =>
    intro ds e0 hs hz
    subst e0
    rw [List.map_cons] at hs hz ⊢
    have hs : ShowB (kD kv.1) ∧ ShowBAll (kvs.map fun p => kD p.1) := by simpa only [ShowBAll] using hs
    simp only [PyData.shownAll] at hz
    obtain ⟨as, bs, i1, i2, i3⟩ := ih rfl hs.2 (fun t ht => hz t (List.mem_cons_of_mem _ ht))
    have hd : PyData.depth (kD kv.1) = 0 := (show ∀ k : Key, PyData.depth (kD k) = 0 from fun k => by cases k <;> simp [kD, PyData.depth]) kv.1
    obtain ⟨as', k1, k2⟩ := key_read (P := P) (w := w) (h := h) h1 rfl hs.1 (hz _ List.mem_cons_self) hn
    have hle : PyData.depthAll (kvs.map fun p => kD p.1) ≤ PyData.depthAll (kD kv.1 :: kvs.map fun p => kD p.1) := by simp only [PyData.depthAll]; omega
    refine ⟨as' ++ as, bs, .cons k1 i1, i2.mono hle, ?_⟩
    simp only [List.map_cons, PyData.shownAll, PyData.depthAll]
    exact .cons ((k2.more fun b hb => nomatch hb).level_le (by omega)) (i3.more_le (fun b hb => hb) (by omega))
theorem showBKv_split : ∀ {kvs : List (D × D)}, ShowBKv kvs → ShowBAll (kvs.map (·.1)) ∧ ShowBAll (kvs.map (·.2))
  | [], _ => ⟨trivial, trivial⟩
  | (k, v) :: r, hk => by
    have hk : ShowB k ∧ ShowB v ∧ ShowBKv r := by simpa only [ShowBKv] using hk
    obtain ⟨a, b⟩ := showBKv_split hk.2.2
    exact ⟨⟨hk.1, a⟩, hk.2.1, b⟩
theorem RepKV.keys : ∀ {kvs : List (Key × V)} {ps : List (D × D)}, RepKV K H kvs ps → kvs.map (fun p => kD p.1) = ps.map (·.1)
  | _, _, .nil => rfl
  | _, _, .cons _ r => by rw [List.map_cons, List.map_cons, RepKV.keys r]
theorem kv_keys : ∀ {kvs : List (Key × V)} {vs : List (Key × Value)}, KV kvs vs → kvs.map (fun p => kD p.1) = vs.map fun p => kD p.1
  | _, _, .nil => rfl
  | _, _, .cons h r => by rw [List.map_cons, List.map_cons, kv_keys r, h.1]
theorem pairs_vals : ∀ {es : List DictEntry} {kvs : List (Key × Value)}, Pairs (mixKind P w) es kvs → es.map (·.val) = kvs.map (·.2)
  | _, _, .nil => rfl
  | _, _, .cons _ h r => by rw [List.map_cons, List.map_cons, pairs_vals r, h]
theorem kv_vals : ∀ {kvs : List (Key × V)} {vs : List (Key × Value)}, KV kvs vs → Vals (kvs.map (·.2)) (vs.map (·.2))
  | _, _, .nil => .nil
  | _, _, .cons h r => .cons h.2 (kv_vals r)
theorem RepKV.vals : ∀ {kvs : List (Key × V)} {ps : List (D × D)}, RepKV K H kvs ps → Reps K H (kvs.map (·.2)) (ps.map (·.2))
  | _, _, .nil => .nil
  | _, _, .cons h r => .cons h (RepKV.vals r)
mutual
theorem Rep.showK (I : HOk P w H h) (hn : h.NoDigits) : ∀ {d : D} {v : V} {u : Value}, Rep K H v d → RelV v u → ShowB d → d.shown.length ≤ sizeLine →
    ∃ as bs, Reads h u d as ∧ ReadAtMost h d.depth bs ∧ ReprK P w bs h d.depth u d.shown
  | _, _, u, .non, r, _, _ => by cases (show u = .none from r); exact ⟨_, [], .none, (fun _ q => nomatch q), by simp only [PyData.shown]; exact .of_is ReprIs.none _ _ _⟩
  | _, _, u, .bl b, r, _, _ => by cases (show u = .bool b from r); exact ⟨_, [], .bool b, (fun _ q => nomatch q), by simp only [PyData.shown]; exact .of_is (ReprIs.bool b) _ _ _⟩
  | _, _, u, .int i, r, hs, _ => by
    obtain ⟨t, rfl⟩ := r
    exact ⟨_, [], .int i t, (fun _ q => nomatch q), by
      have := reprK_int (P := P) (w := w) (h := h) (i := i) t hn (by simpa only [ShowB] using hs)
      simpa only [PyData.depth] using this⟩
  | _, _, u, .str x, r, _, hz => by
    obtain ⟨t, rfl⟩ := r
    exact ⟨_, [], .str x t, (fun _ q => nomatch q), by simp only [PyData.shown]; exact .of_is (ReprIs.str x t (by simpa only [PyData.shown] using hz)) _ _ _⟩
  | .list ds, _, u, .lst (a := a) (xs := xs) hl rs, r, hs, hz => by
    cases (show u = .ref _ from r)
    obtain ⟨_, its, n, rv, ho⟩ := I _ _ hl
    have hz' : (listText (PyData.shownAll ds)).length ≤ sizeLine := by simpa only [PyData.shown] using hz
    obtain ⟨as, bs, h4, hb, hk⟩ := Reps.showK I hn rs rv (by simpa only [ShowB] using hs) fun t ht => Nat.le_trans (listText_mem_le ht) hz'
    have h4' : ReadsAll h its.toArray.toList ds as := by simpa using h4
    have rd : Reads h (.ref a) (.list ds) _ := .list ho rfl rfl h4'
    have hna : a ∉ bs := not_mem_of_deeper rd (by simp only [PyData.depth]; omega) hb
    refine ⟨_, a :: bs, rd, ReadAtMost.cons rd (by simp only [PyData.depth]; omega) hb, ?_⟩
    simp only [PyData.depth, PyData.shown]
    cases its with
    | nil =>
      cases h4
      simp only [PyData.shownAll, listText_nil]
      exact ReprK.listEmpty ho rfl rfl
    | cons x l => exact ReprK.list ho rfl rfl hna (by simpa using hk.length_eq) (fun i y e => hk.item i y (by simpa using e))
  | .tuple ds, _, u, .tup (a := a) (xs := xs) hl rs, r, hs, hz => by
    cases (show u = .ref _ from r)
    obtain ⟨_, its, rv, ho⟩ := I _ _ hl
    obtain ⟨o, n, h1, h2, h3⟩ := tup_obj ho
    have hz' : (tupleText (PyData.shownAll ds)).length ≤ sizeLine := by simpa only [PyData.shown] using hz
    obtain ⟨as, bs, h4, hb, hk⟩ := Reps.showK I hn rs rv (by simpa only [ShowB] using hs) fun t ht => Nat.le_trans (tupleText_mem_le ht) hz'
    have h4' : ReadsAll h its.toArray.toList ds as := by simpa using h4
    have rd : Reads h (.ref a) (.tuple ds) _ := .tuple h1 h2 h3 h4'
    have hna : a ∉ bs := not_mem_of_deeper rd (by simp only [PyData.depth]; omega) hb
    refine ⟨_, a :: bs, rd, ReadAtMost.cons rd (by simp only [PyData.depth]; omega) hb, ?_⟩
    simp only [PyData.depth, PyData.shown]
    exact ReprK.tuple h1 h2 h3 hna (by simpa using hk)
  | .dict ps, _, u, .dct (a := a) (kvs := kvs) hl rs, r, hs, hz => by
    cases (show u = .ref _ from r)
    obtain ⟨_, hsys, vs, rv, o, es, ep, h1, h2, h3, _, h5, _⟩ := hl.ok I
    have hz' : (dictText (PyData.shownKv ps)).length ≤ sizeLine := by simpa only [PyData.shown] using hz
    obtain ⟨s1, s2⟩ := showBKv_split (by simpa only [ShowB] using hs)
    obtain ⟨a1, b1, r1, hb1, k1⟩ := keys_read (h := h) hn h5 ((kv_keys rv).symm.trans rs.keys) s1 (fun t ht => let ⟨p, hp, hq⟩ := PyData.shownKv_key_le ps t ht; Nat.le_trans hq (Nat.le_trans (dictText_mem_le hp) hz'))
    have rv2 := kv_vals rv
    rw [← pairs_vals h5] at rv2
    obtain ⟨a2, b2, r2, hb2, k2⟩ := RepKV.showK I hn rs rv2 s2 (fun t ht => let ⟨p, hp, hq⟩ := PyData.shownKv_val_le ps t ht; Nat.le_trans hq (Nat.le_trans (dictText_mem_le hp) hz'))
    have rd : Reads h (.ref a) (.dict ps) _ := .dict h1 h2.1 h3 r1 r2
    have hb : ReadAtMost h (PyData.depthKv ps) (b1 ++ b2) := (hb1.mono (PyData.depthAll_keys_le ps)).append (hb2.mono (PyData.depthAll_vals_le ps))
    have hna : a ∉ b1 ++ b2 := not_mem_of_deeper rd (by simp only [PyData.depth]; omega) hb
    refine ⟨_, a :: (b1 ++ b2), rd, ReadAtMost.cons rd (by simp only [PyData.depth]; omega) hb, ?_⟩
    simp only [PyData.depth, PyData.shown, PyData.shownKv_eq]
    exact ReprK.dict h1 h2.1 h3 hsys hna (ReprEntriesK.of_two es.toList _ _
      (k1.more_le (fun b hb => List.mem_append_left _ hb) (PyData.depthAll_keys_le ps)) (k2.more_le (fun b hb => List.mem_append_right _ hb) (PyData.depthAll_vals_le ps)))
theorem Reps.showK (I : HOk P w H h) (hn : h.NoDigits) : ∀ {ds : List D} {vs : List V} {us : List Value}, Reps K H vs ds → Vals vs us → ShowBAll ds → (∀ t ∈ PyData.shownAll ds, t.length ≤ sizeLine) →
    ∃ as bs, ReadsAll h us ds as ∧ ReadAtMost h (PyData.depthAll ds) bs ∧ ReprAllK P w bs h (PyData.depthAll ds) us (PyData.shownAll ds)
  | _, _, _, .nil, .nil, _, _ => ⟨[], [], .nil, (fun _ q => nomatch q), by simp only [PyData.shownAll]; exact .nil⟩
  | d :: ds, _, _, .cons h1 r1, .cons q1 q2, hs, hz => by
    have hs : ShowB d ∧ ShowBAll ds := by simpa only [ShowBAll] using hs
    simp only [PyData.shownAll] at hz
    obtain ⟨a1, b1, r1', hb1, k1⟩ := Rep.showK I hn h1 q1 hs.1 (hz _ List.mem_cons_self)
    obtain ⟨a2, b2, r2', hb2, k2⟩ := Reps.showK I hn r1 q2 hs.2 fun t ht => hz t (List.mem_cons_of_mem _ ht)
    refine ⟨a1 ++ a2, b1 ++ b2, .cons r1' r2', ?_, ?_⟩
    · exact (hb1.mono (by simp only [PyData.depthAll]; omega)).append (hb2.mono (by simp only [PyData.depthAll]; omega))
    · simp only [PyData.depthAll, PyData.shownAll]
      exact .cons ((k1.more fun b hb => List.mem_append_left _ hb).level_le (Nat.le_max_left _ _)) (k2.more_le (fun b hb => List.mem_append_right _ hb) (Nat.le_max_right _ _))
theorem RepKV.showK (I : HOk P w H h) (hn : h.NoDigits) : ∀ {ps : List (D × D)} {kvs : List (Key × V)} {us : List Value}, RepKV K H kvs ps → Vals (kvs.map (·.2)) us → ShowBAll (ps.map (·.2)) → (∀ t ∈ PyData.shownAll (ps.map (·.2)), t.length ≤ sizeLine) →
    ∃ as bs, ReadsAll h us (ps.map (·.2)) as ∧ ReadAtMost h (PyData.depthAll (ps.map (·.2))) bs ∧ ReprAllK P w bs h (PyData.depthAll (ps.map (·.2))) us (PyData.shownAll (ps.map (·.2)))
  | _, _, _, .nil, .nil, _, _ => ⟨[], [], .nil, (fun _ q => nomatch q), by simp only [List.map_nil, PyData.shownAll]; exact .nil⟩
  | _, _, _, .cons (d := d) (ps := ps) h1 r1, .cons q1 q2, hs, hz => by
    rw [List.map_cons] at hs hz ⊢
    have hs : ShowB d ∧ ShowBAll (ps.map (·.2)) := by simpa only [ShowBAll] using hs
    simp only [PyData.shownAll] at hz
    obtain ⟨a1, b1, r1', hb1, k1⟩ := Rep.showK I hn h1 q1 hs.1 (hz _ List.mem_cons_self)
    obtain ⟨a2, b2, r2', hb2, k2⟩ := RepKV.showK I hn r1 q2 hs.2 fun t ht => hz t (List.mem_cons_of_mem _ ht)
    refine ⟨a1 ++ a2, b1 ++ b2, .cons r1' r2', ?_, ?_⟩
    · exact (hb1.mono (by simp only [PyData.depthAll]; omega)).append (hb2.mono (by simp only [PyData.depthAll]; omega))
    · simp only [PyData.depthAll, PyData.shownAll]
      exact .cons ((k1.more fun b hb => List.mem_append_left _ hb).level_le (Nat.le_max_left _ _)) (k2.more_le (fun b hb => List.mem_append_right _ hb) (Nat.le_max_right _ _))
end
theorem showsByB (I : HOk P w H h) (hn : h.NoDigits) {a : Addr} {d : D} (hr : Rep K H (.ref a) d) (hd : (∃ l, d = .list l) ∨ ∃ l, d = .tuple l) (hs : ShowB d) (hz : d.shown.length ≤ sizeLine) : ∃ T idr, ShowsBy P w h a d T idr := by
  cases hr with
  | lst hl rs =>
    rename_i xs ds
    obtain ⟨_, its, n, rv, h1⟩ := I _ _ hl
    have hz' : (listText (PyData.shownAll ds)).length ≤ sizeLine := by simpa only [PyData.shown] using hz
    obtain ⟨as, bs, h4, hb, hk⟩ := Reps.showK I hn rs rv (by simpa only [ShowB] using hs) fun t ht => Nat.le_trans (listText_mem_le ht) hz'
    have h4' : ReadsAll h its.toArray.toList ds as := by simpa using h4
    have rd : Reads h (.ref a) (.list ds) _ := .list h1 rfl rfl h4'
    have hna : a ∉ bs := not_mem_of_deeper rd (by simp only [PyData.depth]; omega) hb
    refine ⟨"list", "list.__repr__", F.slot_list_repr.toG, F.slot_list_str, F.slot_list_format, fun s hk0 => ⟨_, hk0 _ _ h1, rfl⟩, fun A E s Q hg hu hk0 hQ => ?_⟩
    simp only [PyData.depth] at hu
    simp only [PyData.shown] at hQ
    cases its with
    | nil =>
      cases h4
      simp only [PyData.shownAll, listText_nil] at hQ
      exact call_list_repr_empty ⟨_, hk0 _ _ h1, rfl⟩ (hk0 _ _ h1) rfl (hQ s.heap _ _ fun _ _ e => e)
    | cons x l => exact call_list_reprK h1 rfl rfl hna (by simpa using hk.length_eq) (fun i y e => hk.item i y (by simpa using e)) hg (fun b _ => Clear.nil b) hu hk0 hQ hz'
  | tup hl rs =>
    rename_i xs ds
    obtain ⟨_, its, rv, ho⟩ := I _ _ hl
    obtain ⟨o, n, h1, h2, h3⟩ := tup_obj ho
    have hz' : (tupleText (PyData.shownAll ds)).length ≤ sizeLine := by simpa only [PyData.shown] using hz
    obtain ⟨as, bs, h4, hb, hk⟩ := Reps.showK I hn rs rv (by simpa only [ShowB] using hs) fun t ht => Nat.le_trans (tupleText_mem_le ht) hz'
    have h4' : ReadsAll h its.toArray.toList ds as := by simpa using h4
    have rd : Reads h (.ref a) (.tuple ds) _ := .tuple h1 h2 h3 h4'
    have hna : a ∉ bs := not_mem_of_deeper rd (by simp only [PyData.depth]; omega) hb
    refine ⟨"tuple", "tuple.__repr__", F.slot_tuple_repr, F.slot_tuple_str, F.slot_tuple_format, fun s hk0 => ⟨o, hk0 _ _ h1, h2⟩, fun A E s Q hg hu hk0 hQ => ?_⟩
    simp only [PyData.depth] at hu
    simp only [PyData.shown] at hQ
    exact call_tuple_reprK h1 h2 h3 hna (by simpa using hk) hg (fun b _ => Clear.nil b) hu hk0 hQ hz'
  | dct hl rs => rcases hd with ⟨_, e⟩ | ⟨_, e⟩ <;> cases e
end
def rReprB (K : Fg) : List V → Hp → VK → Prop := fun xs H Q => ∃ (a : Addr) (d : D), xs = [.ref a] ∧ Rep K H (.ref a) d ∧ ((∃ l, d = .list l) ∨ ∃ l, d = .tuple l) ∧ ShowB d ∧ d.depth ≤ 60 ∧ d.shown.length ≤ sizeLine ∧ Q (.str d.shown) H
theorem call_reprB {X : Cx} (hgd : X.A.guards = some []) (hu : X.A.units + 65 < cLine) (hn : X.base.NoDigits) : CallR X (.builtin "repr") (rReprB X.K) := by
  intro pins s σ H xs us Q I r h
  obtain ⟨a, d, rfl, hr, hd, hs, hdp, hsz, q⟩ := h
  obtain ⟨u, rfl, ru⟩ := vals1 r
  cases (show u = .ref a from ru)
  obtain ⟨T, idr, S⟩ := showsByB I.hok (hn.keeps I.bk) hr hd hs hsz
  exact call_repr_slot (by omega) (S.typeIs s fun _ _ e => e) S.slotRepr (S.call X.A.in1 _ s _ hgd (by show X.A.units + 1 + d.depth < cLine; omega) (fun _ _ e => e) fun h' u tk k => ⟨_, _, rfl, ⟨.str d.shown, H, I.kept k, ⟨_, rfl⟩, q⟩⟩)
def oReprB : Op1 := fun d k => ShowB d ∧ d.depth ≤ 60 ∧ d.shown.length ≤ sizeLine ∧ (match d with
  | .list _ => k (.sh (.str d.shown))
  | .tuple _ => k (.sh (.str d.shown))
  | _ => False)
theorem sem_reprB {G : Gb} : SemN G (rReprB G.K) (o1 oReprB) := by
  refine semN_1 ?_
  intro C Hi σ H Γ x a k Q c ha h q
  obtain ⟨h1, h2, h3, h4⟩ := h
  have hr := ha.rep c.imm
  cases a with
  | list l =>
    obtain ⟨p, xs, rfl, _, _⟩ := ha.list c.imm
    exact ⟨p, _, rfl, hr, .inl ⟨_, rfl⟩, h1, h2, h3, q _ _ H Hi (Ext.refl _) (out_str c _) h4⟩
  | tuple l =>
    obtain ⟨p, xs, rfl, _, _⟩ := ha.tuple c.imm
    exact ⟨p, _, rfl, hr, .inr ⟨_, rfl⟩, h1, h2, h3, q _ _ H Hi (Ext.refl _) (out_str c _) h4⟩
  | _ => exact h4.elim
theorem b_reprB {X : Cx} {G : Gb} (hK : X.K = G.K) (hgd : X.A.guards = some []) (hu : X.A.units + 65 < cLine) (hn : X.base.NoDigits) : B1 X G "repr" (rReprB G.K) (o1 oReprB) := ⟨by rw [← hK]; exact call_reprB hgd hu hn, sem_reprB⟩
end VL

set_option Elab.async false
set_option linter.all false
set_option maxRecDepth 100000
namespace SC
open PySem L2 VL

def bigI : Nat := 10 ^ 2797
theorem big_ten : bigI ≤ tenP := by unfold bigI tenP; decide +kernel
theorem shown_int {i : Int} (h : i.natAbs < bigI) : (PyData.shown (.int i)).length ≤ 2800 := by
  have e := int_text_length_le10 (k := 2797) (by decide) h
  show (Str.ofString (toString i)).length ≤ 2800
  rw [ofString_length]
  omega
structure Fit (M : Nat) (t : D) : Prop where
  sh : ShowB t
  dp : t.depth ≤ 5
  lv : t.leavesShort 2800 = true
  bk : t.bulk ≤ M
structure FitAll (M : Nat) (ts : List D) : Prop where
  sh : ShowBAll ts
  dp : PyData.depthAll ts ≤ 4
  lv : PyData.leavesShortAll 2800 ts = true
  bk : PyData.bulkAll ts ≤ M
theorem FitAll.list {M : Nat} {ts : List D} (h : FitAll M ts) : Fit M (.list ts) :=
  ⟨by simpa only [ShowB] using h.sh, by have := h.dp; simp only [PyData.depth]; omega, by simpa only [PyData.leavesShort] using h.lv, by simpa only [PyData.bulk] using h.bk⟩
theorem FitAll.tuple {M : Nat} {ts : List D} (h : FitAll M ts) : Fit M (.tuple ts) :=
  ⟨by simpa only [ShowB] using h.sh, by have := h.dp; simp only [PyData.depth]; omega, by simpa only [PyData.leavesShort] using h.lv, by simpa only [PyData.bulk] using h.bk⟩
theorem FitAll.nil : FitAll 0 [] := ⟨by simp only [ShowBAll], by simp [PyData.depthAll], by simp [PyData.leavesShortAll], by simp [PyData.bulkAll]⟩
theorem FitAll.cons {M N : Nat} {t : D} {ts : List D} (h : Fit M t) (hd : t.depth ≤ 4) (g : FitAll N ts) : FitAll (M + 1 + N) (t :: ts) :=
  ⟨by simp only [ShowBAll]; exact ⟨h.sh, g.sh⟩, by have := g.dp; simp only [PyData.depthAll]; omega, by simp [PyData.leavesShortAll, h.lv, g.lv], by have := h.bk; have := g.bk; simp only [PyData.bulkAll]; omega⟩
theorem Fit.mono {M N : Nat} {t : D} (h : Fit M t) (l : M ≤ N) : Fit N t := ⟨h.sh, h.dp, h.lv, Nat.le_trans h.bk l⟩
theorem FitAll.mono {M N : Nat} {t : List D} (h : FitAll M t) (l : M ≤ N) : FitAll N t := ⟨h.sh, h.dp, h.lv, Nat.le_trans h.bk l⟩
theorem fit_int {i : Int} (h : i.natAbs < bigI) : Fit 0 (.int i) :=
  ⟨by simp only [ShowB]; exact Nat.lt_of_lt_of_le h big_ten, by simp [PyData.depth], by simpa [PyData.leavesShort] using shown_int h, by simp [PyData.bulk]⟩
theorem fit_str {x : Str} (h : PyData.strOk x = true) : Fit x.cps.size (.str x) :=
  ⟨by simp only [ShowB], by simp [PyData.depth], by
    unfold PyData.strOk at h
    rw [← Array.all_toList] at h
    simp only [PyData.leavesShort, List.all_eq_true, decide_eq_true_eq]
    intro c hc
    have := List.all_eq_true.mp h c hc
    have := of_decide_eq_true this
    omega, by simp [PyData.bulk]⟩
theorem fit_shown {M : Nat} {t : D} (h : Fit M t) (hM : M ≤ 5900) : t.shown.length ≤ sizeLine := by
  have := PyData.shown_le_bulk 2800 (by decide) t h.lv
  have hb := h.bk
  have : (2800 + 2) * t.bulk ≤ 2802 * 5900 := Nat.mul_le_mul_left _ (by omega)
  rw [sizeLine_eq]
  omega
theorem fit_items : ∀ {l : List It}, (∀ it ∈ l, it.shows) → FitAll (18 * l.length) (sc l) ∧ PyData.depthAll (sc l) ≤ 1
  | [], _ => ⟨FitAll.nil, by simp [sc, PyData.depthAll]⟩
  | it :: l, h => by
    obtain ⟨ih, id⟩ := fit_items (l := l) fun x hx => h x (List.mem_cons_of_mem _ hx)
    have hi := h it List.mem_cons_self
    have one : Fit 17 it.d ∧ it.d.depth ≤ 1 := by
      have p1 : 10 ^ 12 ≤ bigI := by unfold bigI; decide +kernel
      cases it with
      | bar n =>
        refine ⟨(((fit_str b1).mono (N := 3) (Nat.le_of_eq s1) |> fun a => FitAll.cons a (by simp [PyData.depth]) (FitAll.cons ((fit_str (name_strOk hi)).mono (name_size hi)) (by simp [PyData.depth]) FitAll.nil)).tuple).mono (by decide), ?_⟩
        simp [It.d, PyData.depth, PyData.depthAll]
      | mark n =>
        refine ⟨(((fit_str b2).mono (N := 4) (Nat.le_of_eq s2) |> fun a => FitAll.cons a (by simp [PyData.depth]) (FitAll.cons ((fit_str (name_strOk hi)).mono (name_size hi)) (by simp [PyData.depth]) FitAll.nil)).tuple).mono (by decide), ?_⟩
        simp [It.d, PyData.depth, PyData.depthAll]
      | rep n c =>
        obtain ⟨hn, c1, c2⟩ := hi
        refine ⟨(((fit_str b3).mono (N := 6) (Nat.le_of_eq s3) |> fun a => FitAll.cons a (by simp [PyData.depth]) (FitAll.cons ((fit_str (name_strOk hn)).mono (name_size hn)) (by simp [PyData.depth]) (FitAll.cons (fit_int (i := c) (by omega)) (by simp [PyData.depth]) FitAll.nil))).tuple).mono (by decide), ?_⟩
        simp [It.d, PyData.depth, PyData.depthAll]
    refine ⟨(FitAll.cons one.1 (by omega) ih).mono (by rw [List.length_cons]; omega), ?_⟩
    rw [show sc (it :: l) = it.d :: sc l from rfl]
    simp only [PyData.depthAll]
    omega
structure Thing (t : D) : Prop where
  fit : Fit 590 t
  dp : t.depth ≤ 3
  len : ∀ xs, t = .list xs → xs.length ≤ 1000
  nts : ∀ ms : List Int, t = .list (ms.map .int) → ∀ x ∈ ms, x.natAbs < 2 ^ 400000
end SC

set_option Elab.async false
set_option linter.all false
set_option maxRecDepth 100000
namespace SC
open PySem L2 VL

end SC

set_option Elab.async false
set_option linter.all false
set_option maxRecDepth 100000
namespace SC
open PySem L2 VL

structure NoSc (d : D) : Prop where
  v : valOk d
  s : scoreD d = false
  f : Fit 1700 d
  dp : d.depth ≤ 3
theorem FitAll.append {M N : Nat} : ∀ {ts us : List D}, FitAll M ts → FitAll N us → FitAll (M + N) (ts ++ us)
  | [], _, _, g => g.mono (Nat.le_add_left _ _)
  | t :: ts, us, h, g => by
    obtain ⟨h1, h2, h3, h4⟩ := h
    simp only [ShowBAll] at h1
    simp only [PyData.depthAll] at h2
    simp only [PyData.leavesShortAll, Bool.and_eq_true] at h3
    simp only [PyData.bulkAll] at h4
    obtain ⟨i1, i2, i3, i4⟩ := FitAll.append (M := PyData.bulkAll ts) ⟨h1.2, by omega, h3.2, Nat.le_refl _⟩ g
    refine ⟨?_, ?_, ?_, ?_⟩
    · simp only [List.cons_append, ShowBAll]; exact ⟨h1.1, i1⟩
    · simp only [List.cons_append, PyData.depthAll]; omega
    · simp only [List.cons_append, PyData.leavesShortAll, Bool.and_eq_true]; exact ⟨h3.1, i3⟩
    · simp only [List.cons_append, PyData.bulkAll]; omega
end SC

set_option Elab.async false
set_option linter.all false
set_option maxRecDepth 100000
namespace VL
open PySem PySem.Spec PyProof.Rows L2

def adr (mg : Str → Option Value) (x : Str) : Addr := match mg x with
  | some (.ref a) => a
  | _ => 0
def tAs (mg : Str → Option Value) : List Str → TA
  | [] => tNil
  | x :: r => tCons (tC (.ref (adr mg x))) (tAs mg r)
section
variable {X : Cx} {G : Gb} {W : WX} {mg : Str → Option Value} {k : Nat} {fe e : Expr} {es : List Expr} {tf : TE} {t : TA} {w : WA} {p p2 pos : Pos}
structure DF (X : Cx) (G : Gb) (k : Nat) (mg : Str → Option Value) (es : List Expr) (xs : List Str) (fss : List FS) : Prop where
  pa : PA X es (tAs mg xs)
  ln : xs.length = fss.length
  ok : ∀ (j : Nat) (x : Str) (fs : FS), xs[j]? = some x → fss[j]? = some fs → ∃ fd ps, FnOk X.prog X.w X.K X.mg X.base (L2N.CX X.prog X.w) k (adr mg x) fd ps (lift G fs) ∧ PySem.W.keepIn X.K (.ref (adr mg x)) = true ∧ Binds X.K fd ps []
def wPick (i : Nat) (c : Int) (fss : List FS) (wa : WA) : WE := fun Γ Q X => match Γ[i]? with
  | some (.sh (.int n)) => 0 ≤ n - c ∧ (match fss[(n - c).toNat]? with
    | some fs => wCall fs [] wa Γ Q X
    | none => False)
  | _ => False
end
def slPick (c : Int) (k : Int → Prop) : Sl → Prop
  | .sh (.int n) => 0 ≤ n - c ∧ k (n - c)
  | _ => False
@[simp ↓] theorem ev_wPick (i : Nat) (c : Int) (fss : List FS) (wa : WA) (Γ : Ev) (Q : R → Ev → Prop) (X : XW) : wPick i c fss wa Γ Q X = getS Γ i fun s => slPick c (fun m => match fss[m.toNat]? with
    | some fs => wCall fs [] wa Γ Q X
    | none => False) s := by
  rw [getS_at]
  unfold wPick
  cases Γ[i]? with
  | none => rfl
  | some s =>
    cases s with
    | sh d => cases d <;> rfl
    | _ => rfl
@[simp ↓] theorem slPick_i (c n : Int) (k : Int → Prop) : slPick c k (.sh (.int n)) = (0 ≤ n - c ∧ k (n - c)) := rfl
end VL

set_option Elab.async false
set_option linter.all false
set_option maxRecDepth 100000
namespace SC
open PySem L2 VL

end SC

set_option Elab.async false
set_option linter.all false
set_option maxRecDepth 100000
set_option maxHeartbeats 2000000
namespace VL
open PySem PySem.Spec PyProof.Rows L2 HotX

section
variable {prog : Program} {w : World} {A : Around} {E : Value → Shared → Prop} {s : Shared}
end

def Hk (A : Around) (H : Hp) : Prop := ∃ a cls, A.handled = some (.ref a) ∧ H a = some (KpO cls a)
theorem Hk.at {X : Cx} {pins : List (Addr × Obj)} {σ : St} {H : Hp} {s : Shared} (h : Hk X.A H) (I : Inv X pins σ H s) : ∃ x1, HotAt X.A x1 s.heap := by
  obtain ⟨a, cls, hh, ha⟩ := h
  obtain ⟨⟨oe, vs, h1, z, d⟩, _⟩ := (show ObjOk X.prog X.w H s.heap a (KpO cls a) from I.hok a _ ha)
  exact ⟨a, hh, oe, vs, h1, d, z.2.2 vs d⟩
structure TurnK (P : Program) (w : World) (K : PySem.W.Frag) (tg : Expr) (J : It) (fp : List Addr) (it : Addr) (tn : Nat → Heap → Prop) : Prop where
  mem : it ∈ fp
  obj : ∀ i h, tn i h → ∀ b ∈ fp, ∃ o, h.get? b = some o ∧ ∀ v, o.data ≠ .cell v
  keep : ∀ i h h', tn i h → (∀ b ∈ fp, ∀ o, h.get? b = some o → h'.get? b = some o) → tn i h'
  item : ∀ (X : Cx), X.prog = P → X.w = w → X.K = K → ∀ (i : Nat) (pins : List (Addr × Obj)) (s : Shared) (σ : St) (H : Hp) (E : Value → Shared → Prop), Inv X pins σ H s → (∀ b ∈ fp, FpOk X pins H b) → tn i s.heap → J.go i H →
    wpAny (model P w) X.A (pyNext (.ref it)) (fun r s1 => ∃ u, r = some u ∧
      wpAny (model P w) X.A (letOwnedTupleGo tg (.ref it) u) (fun _ s2 => ∃ x H', Inv X pins σ H' s2 ∧ RelV x u ∧ J.yld i H x H' ∧ tn (i + 1) s2.heap ∧ ∀ b ∈ fp, H' b = none) E s1) E s
  done : ∀ (X : Cx), X.prog = P → X.w = w → X.K = K → ∀ (i : Nat) (pins : List (Addr × Obj)) (s : Shared) (σ : St) (H : Hp) (E : Value → Shared → Prop), Inv X pins σ H s → Hk X.A H → (∀ b ∈ fp, FpOk X pins H b) → tn i s.heap → J.stop i H →
    wpAny (model P w) X.A (pyNext (.ref it)) (fun r s1 => r = none ∧ Inv X pins σ H s1) E s
  self : ∀ (A : Around) (i : Nat) (s : Shared) (Q : Value → Shared → Prop) (E : Value → Shared → Prop), tn i s.heap → Q (.ref it) s → wpAny (model P w) A (pyIter (.ref it)) Q E s
def PIEK (X : Cx) (pins : List (Addr × Obj)) (σ : St) (tg : Expr) (R : It → Hp → Prop) (itv : Value) (s2 : Shared) : Prop :=
  ∃ (it : Addr) (fp : List Addr) (tn : Nat → Heap → Prop) (J : It) (H' : Hp), itv = .ref it ∧ Inv X pins σ H' s2 ∧ TurnK X.prog X.w X.K tg J fp it tn ∧ tn 0 s2.heap ∧ (∀ b ∈ fp, FpOk X pins H' b) ∧ R J H'
structure PIK (X : Cx) (tg iter : Expr) (wi : TI) : Prop where
  run : ∀ (pins : List (Addr × Obj)) (s : Shared) (σ : St) (H : Hp) (R : It → Hp → Prop), Inv X pins σ H s → wi σ H R →
    wpAny (model X.prog X.w) X.A (eval iter X.env) (fun v s1 => wpAny (model X.prog X.w) X.A (pyIter v) (PIEK X pins σ tg R) X.xe s1) X.xe s
section
variable {X : Cx}
end

def slK2 : Sl → Prop
  | .op t _ => t % 10 = 2
  | _ => False
def kepAt (Γ : Ev) (i : Nat) : Prop := match Γ[i]? with
  | some s => slK2 s
  | none => False
@[simp ↓] theorem ev_kepAt (Γ : Ev) (i : Nat) : kepAt Γ i = getS Γ i slK2 := by
  rw [getS_at]; rfl
@[simp ↓] theorem slK2_op (t : Nat) (d : D) : slK2 (.op t d) = (t % 10 = 2) := rfl
section
variable {X : Cx} {G : Gb} {W : WX} {A : Around} {a e : Expr} {es : List Expr} {tg : Expr} {tI : TI} {wI : WI} {ta te : TE} {wa we : WE} {tt : TT} {wt : WT} {g : TG} {gs : TGs} {wg : WG} {wgs : WGs} {vs : List Nat} {ifs : List Expr} {scope : Scope} {own : List (Str × Nat)} {pos : Pos}
def wgTupH (i n : Nat) (b : WGs) : WG := fun d Γ Q => kepAt Γ i ∧ wgTup n b d Γ Q
@[simp ↓] theorem ev_wgTupH (i n : Nat) (b : WGs) (d : D) (Γ : Ev) (Q : Ev → Prop) : wgTupH i n b d Γ Q = (kepAt Γ i ∧ wgTup n b d Γ Q) := rfl
structure DIHt (X : Cx) (G : Gb) (W : WX) (tg e : Expr) (t : TI) (w : WI) : Prop where
  pe : PIK X tg e t
  sim : SimI G W t w
def wLcHt (i : Nat) (vs : List Nat) (wi : WI) (g : WG) (t : WT) (w : WE) : WE := fun Γ Q X => wLc vs wi g t w Γ (fun r Γ' => kepAt Γ' i ∧ Q r Γ') X
@[simp ↓] theorem ev_wLcHt (i : Nat) (vs : List Nat) (wi : WI) (g : WG) (t : WT) (w : WE) (Γ : Ev) (Q : R → Ev → Prop) (X : XW) : wLcHt i vs wi g t w Γ Q X = wLc vs wi g t w Γ (fun r Γ' => kepAt Γ' i ∧ Q r Γ') X := rfl
end
end VL

set_option Elab.async false
set_option linter.all false
set_option maxRecDepth 100000
set_option maxHeartbeats 2000000
namespace VL
open PySem PySem.Spec PyProof.Rows L2 HotX L2H

structure FnHt (P : Program) (w : World) (K : Fg) (mg : Str → Option Value) (base : Heap) (CX : CXT) (k : Nat) (f : Addr) (fd : FuncData) (ps : List Str) (sp : Sp) : Prop where
  len : ∀ vs H Q E, sp vs H Q E → vs.length = ps.length
  run : ∀ (A : Around) (outer : List Env) (s : Shared) (H : Hp) (args : Args) (us : List Value) (a : Addr) (Q : VK) (E : XK), RoomH k A → A.handled = some (.ref a) → Env0 P w K mg base A outer s H → BindsTo s fd args (ps.zip us) → Vals [V.ref a] us → sp [.ref a] H Q E →
    codeAny (model P w) A (.call (.ref f) args) (CR CX outer P w H s Q E) s
section
variable {P : Program} {w : World} {K : Fg} {mg : Str → Option Value} {base : Heap} {x qual : Str} {params : Arguments} {body : List Stmt} {scope : Scope} {dvs : List V} {kws : List (Str × V)} {f : Addr} {fd : FuncData} {N ps : List Str} {k : Nat} {ca : Str → Addr} {fs : FS} {ws : WS}
theorem FnHt.mono {CX : CXT} {j k : Nat} {sp : Sp} (F : FnHt P w K mg base CX j f fd ps sp) (h : j ≤ k) : FnHt P w K mg base CX k f fd ps sp :=
  ⟨F.len, fun A outer s H args us a Q E hr => F.run A outer s H args us a Q E (hr.mono h)⟩
def GdHt (P : Program) (wd : World) (G : Gb) (mg : Str → Option Value) (base : Heap) (k : Nat) (x : Str) (fs : FS) (ps : List Str) : Prop :=
  ∃ (f : Addr) (fd : FuncData), mg x = some (.ref f) ∧ PySem.W.keepIn G.K (.ref f) = true ∧ FnHt P wd G.K mg base (L2N.CX P wd) k f fd ps (lift G fs) ∧ Binds G.K fd ps []
theorem GdHt.mono {wd : World} {G : Gb} {k' : Nat} (h : GdHt P wd G mg base k x fs ps) (l : k ≤ k') : GdHt P wd G mg base k' x fs ps :=
  let ⟨f, fd, h1, h2, h3, h4⟩ := h
  ⟨f, fd, h1, h2, h3.mono l, h4⟩
end
section
variable {X : Cx} {G : Gb} {W : WX} {fs : FS} {ps : List Str} {k : Nat} {x y n : Str} {p p2 pos py pos3 q1 q2 q3 : Pos}
def wTryHt (xs : List Str) (i : Nat) (wb ws : WS) : WS := fun Γ D _ => wb Γ D fun e Γ1 => e.idx = none ∧ e.name ∈ xs ∧ i < Γ1.length ∧
  ws (Γ1.set i (.op 12 (.str e.name))) ⟨fun Γ2 => D.nx (Γ2.set i .no), D.rt, fun Γ2 => D.bk (Γ2.set i .no), fun Γ2 => D.ct (Γ2.set i .no)⟩ fun _ _ => False
@[simp ↓] theorem ev_wTryHt (xs : List Str) (i : Nat) (wb ws : WS) (Γ : Ev) (D : WD) (X : XW) : wTryHt xs i wb ws Γ D X = wb Γ D fun e Γ1 => e.idx = none ∧ e.name ∈ xs ∧ i < Γ1.length ∧ ws (Γ1.set i (.op 12 (.str e.name))) ⟨fun Γ2 => D.nx (Γ2.set i .no), D.rt, fun Γ2 => D.bk (Γ2.set i .no), fun Γ2 => D.ct (Γ2.set i .no)⟩ fun _ _ => False := rfl
end
end VL

set_option Elab.async false
set_option linter.all false
set_option maxRecDepth 100000
namespace SC
open PySem L2 VL

def repD (l : List It) (v : D) : Option Nat := match v with
  | .int i => if 0 ≤ i then (match l[i.toNat]? with
    | some (.rep _ _) => some i.toNat
    | _ => none) else none
  | _ => none
end SC

set_option Elab.async false
set_option linter.all false
set_option maxRecDepth 100000
namespace VL
open PySem PySem.Spec PyProof.Rows L2

section
variable {X : Cx} {G : Gb} {W : WX} {k : Nat} {x : Str} {fs : FS} {ps : List Str} {p pos : Pos}
theorem de_call0 (hK : X.K = G.K) (F : Gd X.prog X.w G X.mg X.base k x fs ps []) (hr : Room k X.A) (tk : L2N.Takes X W) (hg : Gl X x := by rfl) (hdb : (x == ("__debug__" : Str)) = false := by decide) :
    DE X G W (.Call (.Name x p) [] [] pos) (tCallSD (lift G fs) [] (L2.WE W) tNil) (wCall fs [] wNil) := by
  obtain ⟨f, fd, h1, h2, h3, ds, h4, h5⟩ := F
  rw [← hK] at h2 h5
  refine ⟨⟨fun pins s σ H Q I h => ?_⟩, sim_callSD (fun _ => .nil) (da_nil (X := X) (G := G) (W := W)).sim⟩
  refine wpAny_Call_Name_kw (ld_glob I hg h1 ?_ hdb)
  exact PySem.W.callWith_K0 I.kIn h2 (run_fnSD (us := []) (by rw [hK]; exact h3) hr h5 h4 (L2N.passAt tk σ) I .nil h)
end

def fs_law_drawX : FS := fun io ds Q _ => ∃ (n : Nat) (m : Int), io = some (.op 1 (.int (n : Int))) ∧ n ≤ 1000000 ∧ ds = [.int m] ∧ 0 < m ∧ m.natAbs < 2 ^ 9000 ∧ ∀ r, 0 ≤ r → r < m → Q (.sh (.int r)) (some (.op 1 (.int ((n + 1 : Nat) : Int))))
def RestW (wr : WS) : Prop := ∀ (m a f k : Int), 0 < m → m.natAbs < 2 ^ 9000 → 0 ≤ k → k ≤ 1010000 →
  wr [.no, .sh (.int m), .io (.list [.int a, .int f, .int k]), .no, .no] ⟨fun _ => False, fun r Γ => ∃ x a' k' : Int, r = .sh (.int x) ∧ 0 ≤ x ∧ x < m ∧ 0 ≤ k' ∧ k' ≤ k + 1 ∧ Γ[2]? = some (.io (.list [.int a', .int f, .int k'])), fun _ => False, fun _ => False⟩ fun _ _ => False
theorem reps_ints3 {K : Fg} {Hi : Hp} {xs : List V} {a b c : Int} (h : Reps K Hi xs [.int a, .int b, .int c]) : xs = [.int a, .int b, .int c] := by
  cases h with
  | cons h1 h =>
    cases h with
    | cons h2 h =>
      cases h with
      | cons h3 h =>
        cases h
        cases h1; cases h2; cases h3
        rfl
theorem deck_run {K : Fg} {ca : Str → Addr} {N : List Str} {tr : TS} {wr : WS} {vs : List V} {H : Hp} {Q : VK} {E : XK} (hN : N.length = 5) (hw : RestW wr) (hs : SimS ⟨K, OpS K, ca⟩ (fun c d _ H => E c d H) tr wr) (h : lift ⟨K, OpS K, ca⟩ fs_law_drawX vs H Q E) :
    tSeq (tAsg (tOp (rIxA K) (tOp (rIxA K) (tVar 0) (tC (.int 0))) (tOp (rI (fun _ j => 0 < j) fun i j => .int (i % j)) (tOp (rIxA K) (tVar 0) (tC (.int 1))) (tCB (rLenA K) (tCons (tOp (rIxA K) (tVar 0) (tC (.int 0))) tNil)))) (gName 2))
      (tSeq (tAsg (tOp (rAddA K) (tOp (rIxA K) (tVar 0) (tC (.int 1))) (tC (.int 1))) (gSub (tVar 0) (tC (.int 1)) rSetL)) tr) { nx := fun _ H' => Q .non H', rt := Q } (L2.start N vs) H := by
  obtain ⟨io, ds, Hi, Qd, Xd, pre, post, fp, rfl, hio, hr, im, av, ⟨n, m, rfl, hn, rfl, h0, h1, q⟩, hQ, hX⟩ := h
  obtain ⟨_, p, rfl, ok⟩ := hio
  cases hr with
  | cons hm hr =>
  cases hr
  cases hm
  obtain ⟨_, n', q0, ys, c, hd, rfl, pq, pys, qys, hp, c0, c1, hq, yne, yl, hy⟩ := op_deck rfl ok
  have : n' = n := by injection hd with hd; omega
  subst this
  have hst : L2.start N ([.ref p] ++ [.int m]) = [some (.ref p), some (.int m), none, none, none] := by
    unfold L2.start
    rw [hN]
    rfl
  rw [hst]
  have yl0 : 0 < ys.length := List.length_pos_iff.mpr yne
  have e0 := Int.emod_nonneg c (b := (ys.length : Int)) (by omega)
  have e1 := Int.emod_lt_of_pos c (b := (ys.length : Int)) (by omega)
  have hidx : (c % (ys.length : Int)).toNat < ys.length := by omega
  obtain ⟨y, hyy⟩ : ∃ y, ys[(c % (ys.length : Int)).toNat]? = some y := ⟨_, List.getElem?_eq_getElem hidx⟩
  have hmem := List.mem_of_getElem? hyy
  obtain ⟨a, f, kk, hya, k0, k1⟩ := hy y hmem
  have yp : y ≠ p := fun z => pys (z ▸ hmem)
  have yq : y ≠ q0 := fun z => qys (z ▸ hmem)
  have hat : atI (ys.map V.ref) (c % ((ys.map V.ref).length : Int)) = some (.ref y) := by
    rw [List.length_map]
    unfold atI ixN
    rw [List.length_map, if_pos e0, if_pos (by omega)]
    show (ys.map V.ref)[(c % (ys.length : Int)).toNat]? = _
    rw [List.getElem?_map, hyy]; rfl
  have sp : SqL K H p [.ref q0, .int c] := SqL.of hp
  have sq : SqL K H q0 (ys.map V.ref) := SqL.of hq
  refine ⟨_, rfl, .inl (.inl ⟨p, _, 0, .ref q0, rfl, rfl, sp, rfl, _, rfl, .inl (.inl ⟨p, _, 1, .int c, rfl, rfl, sp, rfl, _, rfl, .inl (.inl ⟨p, _, 0, .ref q0, rfl, rfl, sp, rfl, .inl ⟨.ref q0, (ys.map V.ref).length, rfl, .inl ⟨_, sq, rfl⟩, c, _, rfl, rfl, by rw [List.length_map]; omega, .inl (.inl ⟨q0, _, _, .ref y, rfl, rfl, sq, hat, ?_⟩)⟩⟩)⟩)⟩)⟩
  refine ⟨_, rfl, .inl (.inl ⟨p, _, 1, .int c, rfl, rfl, sp, rfl, .inl ⟨c, 1, rfl, rfl, _, rfl, p, _, 1, 1, rfl, rfl, hp, rfl, ?_⟩⟩)⟩
  show tr _ [some (.ref p), some (.int m), some (.ref y), none, none] (upd H p (.lst [.ref q0, .int (c + 1)]))
  generalize hH2 : upd H p (.lst [.ref q0, .int (c + 1)]) = H2
  have h2p : H2 p = some (.lst [.ref q0, .int (c + 1)]) := by rw [← hH2]; exact upd_same
  have h2n : ∀ b, b ≠ p → H2 b = H b := fun b hb => by rw [← hH2]; exact upd_ne hb
  have h2y : H2 y = some (.lst [.int a, .int f, .int kk]) := by rw [h2n y yp]; exact hya
  let C : Cf := ⟨H2, fun _ => none, fun b => b = y, fun b hb => by rw [show b = y from hb, h2y]; simp, fun _ => none⟩
  have cR : Rel ⟨K, OpS K, ca⟩ C (fun _ => none) [some (.ref p), some (.int m), some (.ref y), none, none] H2 [.no, .sh (.int m), .io (.list [.int a, .int f, .int kk]), .no, .no] := by
    refine ⟨fun j => if j = 2 then [y] else [], fun b o h _ => h, fun b h => h, (fun b o h => by cases h), (fun b o h => by cases h), (fun b o h => by cases h), rfl, fun j s hs => ?_, fun i j b _ _ hi hj => ?_, fun i b _ hi => rfl⟩
    · match j, hs with
      | 0, hs => cases hs; exact ⟨_, rfl, rfl⟩
      | 1, hs => cases hs; exact ⟨_, rfl, rfl, _, rfl, .int m⟩
      | 2, hs => cases hs; exact ⟨_, rfl, y, rfl, rfl, .lst h2y (.cons (.int a) (.cons (.int f) (.cons (.int kk) .nil))), rfl, fun q hq => nomatch hq⟩
      | 3, hs => cases hs; exact ⟨_, rfl, rfl⟩
      | 4, hs => cases hs; exact ⟨_, rfl, rfl⟩
    · by_cases zi : i = 2 <;> by_cases zj : j = 2
      · rw [zi, zj]
      · rw [if_neg zj] at hj; cases hj
      · rw [if_neg zi] at hi; cases hi
      · rw [if_neg zi] at hi; cases hi
  refine hs C _ _ H2 _ _ _ _ cR (hw m a f kk h0 h1 k0 (by omega)) (fun _ _ _ _ _ _ z => z.elim) (fun v r σ' H' Hi' Γ' e o ⟨x, a', k', er, x0, x1, k0', k1', eg⟩ => ?_) (fun _ _ _ _ _ _ z => z.elim) (fun _ _ _ _ _ _ z => z.elim) (fun _ _ _ _ _ _ _ _ _ _ z => z.elim)
  subst er
  obtain ⟨⟨fpf, c'⟩, rv⟩ := o
  cases rv
  obtain ⟨w, hw1, y', hf, ew, ow, hyy'⟩ := c'.sl 2 _ eg
  have hyy' : y' = y := hyy'.1
  subst hyy'
  have hy' : H' y' = some (.lst [.int a', .int f, .int k']) := by
    cases ow with
    | lst h r => rw [reps_ints3 r] at h; exact h
  have keep : ∀ b o, H b = some o → b ∉ p :: q0 :: ys → H' b = some o := fun b o hb nb => by
    have bp : b ≠ p := fun z => nb (by rw [z]; simp)
    have by' : b ≠ y' := fun z => nb (by rw [z]; simp [hmem])
    exact c'.frame b o (by show H2 b = some o; rw [h2n b bp]; exact hb) by'
  have hlv : ∀ b, H b ≠ none → H' b ≠ none := fun b hb => c'.live b (by
    show H2 b ≠ none
    by_cases z : b = p
    · rw [z, h2p]; simp
    · rw [h2n b z]; exact hb)
  have h'p : H' p = some (.lst [.ref q0, .int (c + 1)]) := c'.frame p _ h2p (Ne.symm yp)
  have h'q : H' q0 = some (.lst (ys.map .ref)) := c'.frame q0 _ (by show H2 q0 = _; rw [h2n q0 (Ne.symm pq)]; exact hq) (Ne.symm yq)
  refine hQ _ (.sh (.int x)) H' Hi (some (.op 1 (.int ((n' + 1 : Nat) : Int)))) (p :: q0 :: ys) ⟨Ext.refl _, fun b o hb => keep b o (im b o hb) fun z => ?_, fun b o z => .inl z, keep, hlv, ⟨by decide, p, rfl, .inr (.inl ⟨rfl, n' + 1, q0, ys, c + 1, rfl, rfl, pq, pys, qys, h'p, by omega, by omega, h'q, yne, yl, fun z hz => ?_⟩)⟩, fun b hb => ⟨av b hb, .inl hb⟩⟩ (.int x) (q x x0 x1)
  · rw [av b z] at hb; cases hb
  · by_cases e : z = y'
    · subst e
      exact ⟨a', f, k', hy', k0', by omega⟩
    · obtain ⟨a1, f1, k1, g1, g2, g3⟩ := hy z hz
      have zp : z ≠ p := fun e => pys (e ▸ hz)
      exact ⟨a1, f1, k1, c'.frame z _ (by show H2 z = _; rw [h2n z zp]; exact g1) e, g2, by omega⟩
end VL

set_option Elab.async false
set_option linter.all false
set_option maxRecDepth 100000
namespace SC
open PySem L2 VL
def w_law_drawX : WS := wSeq (wIfS (wAnd (wT (wOp oEq (wOp oIx (wVar 2) (wC (.int 1))) (wC (.int 1)))) (wT (wOp (oIB fun i j => decide (j < i)) (wOp oIx (wVar 2) (wC (.int 0))) (wC (.int 0))))) (wSeq (wSet 3 (wOp (oII (fun _ j => 0 < j) (· % ·)) (wOp oIx (wVar 2) (wC (.int 0))) (wVar 1))) (wSeq (wLPut 2 (wC (.int 0)) (wOp (oII CDivW (· / ·)) (wOp oIx (wVar 2) (wC (.int 0))) (wVar 1))) (wRet (wVar 3)))) (wNext)) (wSeq (wLPut 2 (wC (.int 2)) (wOp oAdd (wOp oIx (wVar 2) (wC (.int 2))) (wC (.int 1)))) (wSeq (wSet 4 (wOp oAdd (wOp (oII (fun _ j => 0 < j) (· % ·)) (wOp oIx (wVar 2) (wC (.int 0))) (wC (.int 162259276829213363391578010288127))) (wOp oMul (wC (.int 1299709)) (wOp oIx (wVar 2) (wC (.int 2)))))) (wSeq (wSet 4 (wOp (oII (fun _ j => 0 < j) (· % ·)) (wOp (oII CPowW fun i j => i ^ j.toNat) (wVar 4) (wC (.int 3))) (wC (.int 618970019642690137449562111)))) (wSeq (wSet 4 (wOp (oII (fun _ j => 0 < j) (· % ·)) (wOp (oII CPowW fun i j => i ^ j.toNat) (wOp oAdd (wVar 4) (wOp oMul (wC (.int 15485863)) (wOp oIx (wVar 2) (wC (.int 2))))) (wC (.int 3))) (wC (.int 162259276829213363391578010288127)))) (wRet (wOp (oII (fun _ j => 0 < j) (· % ·)) (wOp (oII CDivW (· / ·)) (wVar 4) (wC (.int 1048576))) (wVar 1)))))))
theorem mix_ok {m a k : Int} (hm : 0 < m) (k0 : 0 ≤ k) (k1 : k ≤ 1010000) (hd : ∀ i, CDivW i m) :
    CMulW 1299709 (k + 1) ∧ CPowW (a % 162259276829213363391578010288127 + 1299709 * (k + 1)) 3 ∧ CMulW 15485863 (k + 1) ∧
      CPowW ((a % 162259276829213363391578010288127 + 1299709 * (k + 1)) ^ 3 % 618970019642690137449562111 + 15485863 * (k + 1)) 3 ∧
      CDivW (((a % 162259276829213363391578010288127 + 1299709 * (k + 1)) ^ 3 % 618970019642690137449562111 + 15485863 * (k + 1)) ^ 3 % 162259276829213363391578010288127) 1048576 := by
  have g1 := Int.emod_nonneg a (b := 162259276829213363391578010288127) (by decide)
  have g2 := Int.emod_lt_of_pos a (b := 162259276829213363391578010288127) (by decide)
  have g3 := Int.emod_nonneg ((a % 162259276829213363391578010288127 + 1299709 * (k + 1)) ^ 3) (b := 618970019642690137449562111) (by decide)
  have g4 := Int.emod_lt_of_pos ((a % 162259276829213363391578010288127 + 1299709 * (k + 1)) ^ 3) (b := 618970019642690137449562111) (by decide)
  refine ⟨mul_ok (b := 64) (by decide) (by omega) (by decide) (by decide), pow_ok (b := 300) (by decide) (by decide) (by omega), mul_ok (b := 64) (by decide) (by omega) (by decide) (by decide), pow_ok (b := 300) (by decide) (by decide) ?_, div_ok (by decide) (by decide)⟩
  generalize (a % 162259276829213363391578010288127 + 1299709 * (k + 1)) ^ 3 % 618970019642690137449562111 = x at *
  omega
theorem rest_ok : RestW w_law_drawX := by
  intro m a f k hm hm2 k0 k1
  have hd : ∀ i, CDivW i m := fun i => wide_div (b := 9000) hm hm2 (by decide) (by decide)
  clear hm2
  obtain ⟨x1, x2, x3, x4, x5⟩ := mix_ok (a := a) hm k0 k1 hd
  have tail : ∀ y : Int, 0 ≤ y % m ∧ y % m < m := fun y => ⟨Int.emod_nonneg y (by omega), Int.emod_lt_of_pos y hm⟩
  by_cases hf : f = 1
  · subst hf
    by_cases h : 0 < a
    · simp [w_law_drawX, h, hm, hd, ix3_0, ix3_2, eqv_int, shaped_int, k0]
      exact ⟨(tail a).1, (tail a).2, _, k, k0, by omega, rfl, rfl⟩
    · simp [w_law_drawX, h, hm, ix3_0, ix3_2, eqv_int, shaped_int]
      exact ⟨x1, x2, x3, x4, x5, (tail _).1, (tail _).2, a, k + 1, by omega, Int.le_refl _, rfl, rfl⟩
  · simp [w_law_drawX, hf, hm, ix3_0, ix3_2, eqv_int, shaped_int]
    exact ⟨x1, x2, x3, x4, x5, (tail _).1, (tail _).2, a, k + 1, by omega, Int.le_refl _, rfl, rfl⟩
end SC

set_option Elab.async false
set_option linter.all false
set_option maxRecDepth 100000
namespace L2
open PySem PySem.Spec PyProof.Rows
def rListS : List V → Hp → VK → Prop := fun xs H Q => ∃ x, xs = [.str x] ∧ x.cps.size ≤ sizeLine ∧ ∀ q, H q = none → Q (.ref q) (upd H q (.lst (x.cps.toList.map fun c => V.str ⟨#[c]⟩)))
theorem call_listS {X : Cx} (hc : X.calm = true) : CallR X (.type "list") rListS := by
  intro pins s σ H xs us Q I r h
  obtain ⟨x, e, hz, q⟩ := h
  subst e
  obtain ⟨u, eu, rx⟩ := vals1 r
  subst eu
  obtain ⟨t, rfl⟩ := rx
  refine call_list_str (I.ok.hd hc) x t (fun h' tk acc' c' hkeep hS hacc => ?_) hz
  refine ⟨.ref s.heap.objs.size, upd H s.heap.objs.size (.lst (x.cps.toList.map fun c => V.str ⟨#[c]⟩)), I.laid hkeep (Nat.le_refl _) (show ObjOk X.prog X.w _ _ _ (.lst (x.cps.toList.map fun c => V.str ⟨#[c]⟩)) from ⟨?_, acc'.toList, c', ?_, ?_⟩), rfl, q _ (I.hok.fresh (Nat.le_refl _))⟩
  · rw [List.length_map]; simpa using hz
  · refine vals_of_at (by simp [hacc.1]) fun j x1 w h1 h2 => ?_
    obtain ⟨c, u, hc1, rfl⟩ := hacc.2 j w (by rw [← Array.getElem?_toList]; exact h2)
    rw [List.getElem?_map, Array.getElem?_toList, hc1] at h1
    cases h1
    exact ⟨u, rfl⟩
  · rw [Array.toArray_toList]; exact hS
end L2
namespace VL
open PySem L2
section
variable {G : Gb}
def oListS : Op1 := fun d k => match d with
  | .str x => x.cps.size ≤ sizeLine ∧ k (.ow (.list (signsD x)))
  | _ => False
theorem signs_reps {K : Fg} {Hi : Hp} : ∀ l : List Nat, Reps K Hi (l.map fun c => V.str ⟨#[c]⟩) (l.map fun c => PyData.str ⟨#[c]⟩)
  | [] => .nil
  | c :: l => .cons (.str _) (signs_reps l)
theorem sem_listS : SemN G rListS (o1 oListS) := by
  refine semN_1 ?_
  intro C Hi σ H Γ x a k Q c ha h q
  unfold oListS at h
  split at h
  · obtain ⟨h0, h1⟩ := h
    rename_i z
    refine ⟨z, by rw [ha.str], h0, fun l hl => q _ _ _ Hi (Ext.refl _) (Out.newL c hl (signs_reps _)) h1⟩
  · exact h.elim
theorem t_listS {X : Cx} (hc : X.calm = true) : T1 X G "list" rListS (o1 oListS) := ⟨call_listS hc, sem_listS⟩
@[simp ↓] theorem ev_oListS (x : Str) (k : R → Prop) : oListS (.str x) k = (x.cps.size ≤ sizeLine ∧ k (.ow (.list (signsD x)))) := rfl
end
end VL

set_option Elab.async false
set_option linter.all false
set_option maxRecDepth 100000
namespace VL
open PySem PySem.Spec PyProof.Rows L2

def poolD (p : Int × Int × Int) : D := .list [.int p.1, .int p.2.1, .int p.2.2]
def fs_law_deck : FS := fun io ds Q _ => ∃ ns : List Int, ns.length ≤ 63 ∧ io = some (.op 0 (.list (ns.map .int))) ∧ ds = [] ∧
  ∀ pools : List (Int × Int × Int), pools ≠ [] → pools.length ≤ 63 → (∀ p ∈ pools, 0 ≤ p.2.2 ∧ p.2.2 ≤ 3000) → Q (.ow (.list [.list (pools.map poolD), .int 0])) (some (.op 0 (.list (ns.map .int))))
theorem pools_at {K : Fg} {Hi : Hp} : ∀ {pools : List (Int × Int × Int)} {xs : List V}, Reps K Hi xs (pools.map poolD) → ∃ ys : List Addr, xs = ys.map V.ref ∧ ys.length = pools.length ∧ ∀ y ∈ ys, ∃ p ∈ pools, Hi y = some (.lst [.int p.1, .int p.2.1, .int p.2.2])
  | [], _, h => by cases h; exact ⟨[], rfl, rfl, fun y hy => (nomatch hy)⟩
  | p :: pools, _, h => by
    cases h with
    | cons h1 hr =>
      obtain ⟨ys, rfl, hl, hy⟩ := pools_at hr
      cases h1 with
      | lst ha ra =>
        rename_i a zs
        have := reps_ints3 ra
        subst this
        refine ⟨a :: ys, rfl, by simp [hl], fun y hy' => ?_⟩
        rcases List.mem_cons.mp hy' with rfl | hy'
        · exact ⟨p, List.mem_cons_self, ha⟩
        · obtain ⟨q, hq, e⟩ := hy y hy'
          exact ⟨q, List.mem_cons_of_mem _ hq, e⟩
def wDeck (j i : Nat) : WS := fun Γ D _ => match Γ[j]? with
  | some (.op 0 (.list l)) => (∃ ns : List Int, l = ns.map .int ∧ ns.length ≤ 63) ∧ i < Γ.length ∧ i ≠ j ∧ D.nx (Γ.set i (.op 11 (.int 0)))
  | _ => False
theorem sim_deck {K : Fg} {ca : Str → Addr} {W : WX} (j i : Nat) : SimS ⟨K, OpS K, ca⟩ W (tAsg (tCallSD (lift ⟨K, OpS K, ca⟩ fs_law_deck) [] (L2.WE W) (tCons (tVar j) tNil)) (gName i)) (wDeck j i) := by
  intro C Hi σ H Γ Dn Dd Xd c hw hN hR hB hC hX
  unfold wDeck at hw
  split at hw
  · rename_i l ej
    obtain ⟨⟨ns, rfl, hl⟩, hi, hij, hw⟩ := hw
    obtain ⟨fpf, c⟩ := c
    have hj : j < Γ.length := (List.getElem?_eq_some_iff.mp ej).1
    obtain ⟨x, hx, p0, rfl, ok, home, hpa⟩ := c.sl j _ ej
    refine ⟨_, hx, ?_⟩
    refine ⟨some (.op 0 (.list (ns.map .int))), [], fun _ => none, fun r io => ∃ pools : List (Int × Int × Int), pools ≠ [] ∧ pools.length ≤ 63 ∧ (∀ p ∈ pools, 0 ≤ p.2.2 ∧ p.2.2 ≤ 3000) ∧ r = .ow (.list [.list (pools.map poolD), .int 0]) ∧ io = some (.op 0 (.list (ns.map .int))), fun _ _ => False,
      [.ref p0], [], fpf j, rfl, ⟨by decide, p0, rfl, .inl (op_scr ok)⟩, .nil, (fun a o h => by cases h), fun a _ => rfl, ⟨ns, hl, rfl, rfl, fun pools h1 h2 h3 => ⟨pools, h1, h2, h3, rfl, rfl⟩⟩, fun v r H' Hi' io' fp' L ra q => ?_, fun _ _ _ _ _ _ _ _ _ z => z.elim⟩
    obtain ⟨pools, ne, ln, hk, rfl, rfl⟩ := q
    obtain ⟨p, rfl, ow, hpn, hp0, hpf⟩ := ra
    cases ow with
    | lst hp rp =>
    cases rp with
    | cons r1 rp =>
    cases rp with
    | cons r2 rp =>
    cases rp
    cases r2
    cases r1 with
    | lst hq rq =>
    rename_i q zs
    obtain ⟨ys, rfl, yl, hy⟩ := pools_at rq
    have yne : ys ≠ [] := fun z => ne (List.length_eq_zero_iff.mp (by rw [← yl, z]; rfl))
    have pq : p ≠ q := fun z => by rw [z, hq] at hpn; cases hpn
    have pys : p ∉ ys := fun z => by obtain ⟨_, _, e⟩ := hy p z; rw [hpn] at e; cases e
    have qys : q ∉ ys := fun z => by
      obtain ⟨u, _, e⟩ := hy q z
      rw [hq] at e
      cases ys with
      | nil => exact yne rfl
      | cons y ys => cases e
    have new : ∀ a o, Hi' a = some o → H a = none := fun a o h => (L.ov a o h).resolve_left fun z => by cases z
    have hnew : ∀ a ∈ p :: q :: ys, H a = none := fun a ha => by
      simp only [List.mem_cons] at ha
      rcases ha with rfl | rfl | ha
      · exact hp0
      · exact new _ _ hq
      · obtain ⟨_, _, e⟩ := hy a ha
        exact new _ _ e
    have hnf : ∀ a ∈ p :: q :: ys, a ∉ fp' := fun a ha hf => by
      have hc := (L.cells a hf).1
      simp only [List.mem_cons] at ha
      rcases ha with rfl | rfl | ha
      · exact hpf hf
      · rw [hq] at hc; cases hc
      · obtain ⟨_, _, e⟩ := hy a ha
        rw [e] at hc; cases hc
    obtain ⟨_, p1, e1, ok'⟩ := L.at_
    have : p0 = p1 := by injection e1 with e1; injection e1
    subst this
    have cells2 : ∀ a ∈ fp', Hi a = none ∧ (a ∈ fpf j ∨ H a = none) := fun a ha => by
      rcases (L.cells a ha).2 with z | z
      · exact ⟨c.av j a hj z, .inl z⟩
      · exact ⟨c.imm.none_of z, .inr z⟩
    have home2 : ∀ a ∈ fp', C.H0 a = none ∨ (0 < 10 ∧ C.io a) := fun a ha => by
      rcases (L.cells a ha).2 with z | z
      · exact home a z
      · exact .inl (c.fresh z).2
    have imm2 : Ext Hi H' := fun a o h => L.keep a o (c.imm a o h) (fun z => by rw [c.av j a hj z] at h; cases h)
    have L2 : Left ⟨K, OpS K, ca⟩ Hi H [.ref p0] (fpf j) Hi H' (some (.op 0 (.list (ns.map .int)))) fp' :=
      ⟨Ext.refl _, imm2, fun a o h => .inl h, L.keep, L.live, ⟨by decide, p0, rfl, .inl (op_scr ok')⟩, cells2⟩
    have c2 := c.after ej hx L2 (s1 := .op 0 (.list (ns.map .int))) ⟨p0, rfl, .inl (op_scr ok'), home2, hpa⟩
    have eΓ : Γ.set j (.op 0 (.list (ns.map .int))) = Γ := by
      obtain ⟨hl2, e⟩ := List.getElem?_eq_some_iff.mp ej
      rw [← e]; exact List.set_getElem_self hl2
    rw [eΓ] at c2
    have dk : DeckOk 11 (.int 0) H' p (p :: q :: ys) := ⟨rfl, 0, q, ys, 0, rfl, rfl, pq, pys, qys, hp, by decide, by decide, L.imm _ _ hq, yne, by omega, fun y hy' => by
      obtain ⟨u, hu, e⟩ := hy y hy'
      obtain ⟨k0, k1⟩ := hk u hu
      exact ⟨_, _, _, L.imm _ _ e, k0, by omega⟩⟩
    have c3 := c2.put (i := i) (x := some (.ref p)) (l := p :: q :: ys) (s := .op 11 (.int 0)) hi ⟨p, rfl, .inr (.inl dk), fun a ha => .inl (c.fresh (hnew a ha)).2, fun q hq => absurd hq (by decide)⟩ fun a ha => ⟨c.imm.none_of (hnew a ha), fun k hk2 hki hm => by
      by_cases z : k = j
      · rw [if_pos z] at hm
        exact hnf a ha hm
      · rw [if_neg z] at hm
        obtain ⟨o, e⟩ := c.trk hk2 hm
        rw [hnew a ha] at e; cases e⟩
    exact hN _ H' Hi _ (Ext.refl _) ⟨_, c3⟩ hw
  · exact hw.elim
section
variable {X : Cx} {K : Fg} {ca : Str → Addr} {W : WX} {k : Nat} {x : Str} {ps : List Str} {p p2 p3 pos pos' : Pos}
theorem ds_deck (i j : Nat) {y z : Str} (hK : X.K = K) (hN : X.N.Nodup) (F : Gd X.prog X.w ⟨K, OpS K, ca⟩ X.mg X.base k x fs_law_deck ps []) (hr : Room k X.A) (tk : L2N.Takes X W) (hi : X.N[i]? = some z := by rfl) (hx : L2.Loc X.env.scope z := by first | exact .inl rfl | exact .inr rfl)
    (hNj : X.N[j]? = some y := by rfl) (hv : Vis X.env.scope y := by first | exact Or.inl rfl | exact Or.inr (Or.inl rfl) | exact Or.inr (Or.inr rfl))
    (hd2 : (y == ("__debug__" : Str)) = false := by decide) (hcd : (y == ("__classdict__" : Str)) = false := by decide) (hg : Gl X x := by rfl) (hdb : (x == ("__debug__" : Str)) = false := by decide)
    (he : starEach [.Name y p2] X.env = (false, eval (.Name y p2) X.env) :: starEach [] X.env := by rfl) (hpl : (backTo p3 (starEach [] X.env)).any (·.1) = false := by rfl)
    (hs : swapsWith (.Call (.Name x p) [.Name y p2] [] p3) (some (.Name z pos')) pos.line X.env = pure false := by rfl)
    (hf : X.fn z = true ∨ X.env.scope.names.lookup z = some .local := by first | exact .inl rfl | exact .inr rfl) :
    DS X ⟨K, OpS K, ca⟩ W (.Assign [.Name z pos'] (.Call (.Name x p) [.Name y p2] [] p3) pos) (tAsg (tCallSD (lift ⟨K, OpS K, ca⟩ fs_law_deck) [] (L2.WE W) (tCons (tVar j) tNil)) (gName i)) (wDeck j i) :=
  ⟨ps_set hN hi hx (de_callIo (G := ⟨K, OpS K, ca⟩) hK j F hr tk da_nil hNj hv hd2 hcd hg hdb he hpl).pe hs hf, sim_deck j i⟩
end
def slDk (i j : Nat) (Γ : Ev) (k : Ev → Prop) : Sl → Prop
  | .op 0 (.list l) => (∃ ns : List Int, l = ns.map .int ∧ ns.length ≤ 63) ∧ i < Γ.length ∧ i ≠ j ∧ k (Γ.set i (.op 11 (.int 0)))
  | _ => False
@[simp ↓] theorem ev_wDeck (j i : Nat) (Γ : Ev) (D : WD) (X : XW) : wDeck j i Γ D X = getS Γ j (slDk i j Γ D.nx) := by
  rw [getS_at]
  unfold wDeck
  cases Γ[j]? with
  | none => rfl
  | some s =>
    cases s with
    | op t d => cases t <;> cases d <;> rfl
    | _ => rfl
@[simp ↓] theorem slDk_op (i j : Nat) (Γ : Ev) (k : Ev → Prop) (l : List D) : slDk i j Γ k (.op 0 (.list l)) = ((∃ ns : List Int, l = ns.map .int ∧ ns.length ≤ 63) ∧ i < Γ.length ∧ i ≠ j ∧ k (Γ.set i (.op 11 (.int 0)))) := rfl
end VL

set_option Elab.async false
set_option linter.all false
set_option maxRecDepth 100000
namespace SC
open PySem L2 VL
def w_law_deck : WS := wSeq (wSet 1 (wLst (wNil))) (wSeq (wFor (wiR1 (wCons (wCB (o2 oMax) (wCons (wC (.int 1)) (wCons (wCB (o2 oMin) (wCons (wC (.int 63)) (wCons (wLenS 0) (wNil)))) (wNil)))) (wNil))) (wgName 2) (wSeq (wSet 3 (wC (.int 0))) (wSeq (wIfS (wT (wOp (oIB fun i j => decide (i < j)) (wVar 2) (wLenS 0))) (wSet 3 (wIxS 0 (wVar 2))) (wNext)) (wDrop (wMut 1 fAppend (wCons (wLst (wCons (wVar 3) (wCons (wCB (o1 oInt) (wCons (wOp (oIB fun i j => decide (j ≤ i)) (wVar 3) (wOp (oII CPowW fun i j => i ^ j.toNat) (wC (.int 10)) (wC (.int 18)))) (wNil))) (wCons (wOp oMul (wC (.int 41)) (wVar 2)) (wNil))))) wNil)))))) (wRet (wLst (wCons (wVar 1) (wCons (wC (.int 0)) (wNil))))))
theorem fv_law_deck : FnV fs_law_deck 4 w_law_deck := by
  rintro io ds Q X ⟨ns, hn, rfl, rfl, q⟩
  show w_law_deck [.op 0 (.list (ns.map .int)), .no, .no, .no] _ _
  simp [w_law_deck, ev_wFor]
  obtain ⟨m, hm, m1, m2⟩ : ∃ m : Nat, (if 1 < if (ns.length : Int) < 63 then (ns.length : Int) else 63 then if (ns.length : Int) < 63 then (ns.length : Int) else 63 else 1) = (m : Int) ∧ 1 ≤ m ∧ m ≤ 63 := by
    refine ⟨(if 1 < if (ns.length : Int) < 63 then (ns.length : Int) else 63 then if (ns.length : Int) < 63 then (ns.length : Int) else 63 else 1).toNat, ?_, ?_, ?_⟩ <;> (split <;> split at * <;> omega)
  rw [hm]
  refine ⟨by omega, by omega, ?_⟩
  have t18 : CPowW 10 18 := pow10 18 (by decide) (by decide)
  refine loop_inv (fun i Γ => ∃ (pools : List (Int × Int × Int)) (a2 a3 : Sl), Γ = [.op 0 (.list (ns.map .int)), .ow (.list (pools.map poolD)), a2, a3] ∧ pools.length = i ∧ ∀ p ∈ pools, 0 ≤ p.2.2 ∧ p.2.2 ≤ 3000) ⟨[], _, _, rfl, rfl, fun p hp => (nomatch hp)⟩ ?_ ?_
  · rintro i d Γ k hd ⟨pools, a2, a3, rfl, hl, hp⟩ hk
    have hil := (List.getElem?_eq_some_iff.mp hd).1
    simp [rangeD] at hil
    simp only [rangeD, List.getElem?_map] at hd
    rw [List.getElem?_range (by omega)] at hd
    cases (Option.some.inj hd)
    have hm41 : CMulW 41 (0 + (i : Int)) := mul_ok (b := 64) (by decide) (by omega) (by decide) (by decide)
    have fin : ∀ (c f : Int), k [.op 0 (.list (ns.map .int)), .ow (.list (pools.map poolD ++ [.list [.int c, .int f, .int (41 * (0 + (i : Int)))]])), .sh (.int (0 + (i : Int))), .sh (.int c)] := fun c f => by
      refine hk _ ⟨pools ++ [(c, f, 41 * (0 + (i : Int)))], _, _, by rw [List.map_append]; rfl, by simp [hl], fun p hp2 => ?_⟩
      rcases List.mem_append.mp hp2 with z | z
      · exact hp p z
      · have : p = (c, f, 41 * (0 + (i : Int))) := by simpa using z
        subst this
        exact ⟨by show 0 ≤ 41 * (0 + (i : Int)); omega, by show 41 * (0 + (i : Int)) ≤ 3000; omega⟩
    have e0 : (0 : Int) + (i : Int) = (i : Int) := by omega
    rw [e0] at fin hm41
    have hz : pools.length < sizeLine := Nat.lt_of_lt_of_le (Nat.lt_succ_self _) (smallE (by omega))
    simp
    by_cases h : i < ns.length
    · have ea : atI (ns.map PyData.int) (i : Int) = some (.int ns[i]) := by
        rw [atI_map]
        have : atI ns (i : Int) = ns[i]? := by
          unfold atI ixN
          rw [if_pos (by omega), if_pos (by omega)]
          rfl
        rw [this, List.getElem?_eq_getElem h]
        rfl
      rw [if_pos h, ea]
      simp [t18, hm41, hz]
      exact fin _ _
    · rw [if_neg h]
      exact ⟨t18, hm41, hz, fin _ _⟩
  · rintro Γ ⟨pools, a2, a3, rfl, hl, hp⟩
    simp
    have e : (rangeD 0 m).length = m := by simp [rangeD]
    rw [Int.toNat_natCast, e] at hl
    exact q pools (fun z => by rw [z] at hl; simp at hl; omega) (by omega) hp
def mkN : List Str := ("abcdefghijklmnopqrstuvwxyz" : Str).cps.toList.map (fun c => (⟨#[c]⟩ : Str)) ++ ([("bar" : Str), "mark", "repeat", "do", "re", "zz", "zzzzzzzz", "ab", "ba", "one", "az", "za", "mi", "fa"] : List Str)
theorem mkN_ok : mkN.length = 40 ∧ (∀ x ∈ mkN, nameB x = true) ∧ mkN.Nodup := by decide +kernel
def fs_law_mark_names : FS := fun io ds Q _ => io = none ∧ ds = [] ∧ Q (.ow (.list (mkN.map .str))) none
def w_law_mark_names : WS := wSeq (wSet 0 (wOp oAdd (wCB (o1 oListS) (wCons (wC (.str "abcdefghijklmnopqrstuvwxyz")) (wNil))) (wLst (wCons (wC (.str "bar")) (wCons (wC (.str "mark")) (wCons (wC (.str "repeat")) (wCons (wC (.str "do")) (wCons (wC (.str "re")) (wCons (wC (.str "zz")) (wCons (wC (.str "zzzzzzzz")) (wCons (wC (.str "ab")) (wNil)))))))))))) (wRet (wOp oAdd (wVar 0) (wLst (wCons (wC (.str "ba")) (wCons (wC (.str "one")) (wCons (wC (.str "az")) (wCons (wC (.str "za")) (wCons (wC (.str "mi")) (wCons (wC (.str "fa")) (wNil))))))))))
theorem fv_law_mark_names : FnV fs_law_mark_names 1 w_law_mark_names := by
  rintro io ds Q X ⟨rfl, rfl, q⟩
  show w_law_mark_names [.no] _ _
  simp [w_law_mark_names]
  have e : signsD "abcdefghijklmnopqrstuvwxyz" = (("abcdefghijklmnopqrstuvwxyz" : Str).cps.toList.map (fun c => (⟨#[c]⟩ : Str))).map .str := by unfold signsD; rw [List.map_map]; rfl
  have el : (signsD "abcdefghijklmnopqrstuvwxyz").length = 26 := by decide +kernel
  rw [el]
  refine ⟨smallE (by decide +kernel), smallE (by decide), smallE (by decide), ?_⟩
  rw [e]
  have e2 : (mkN.map PyData.str) = (("abcdefghijklmnopqrstuvwxyz" : Str).cps.toList.map (fun c => (⟨#[c]⟩ : Str))).map .str ++ [.str "bar", .str "mark", .str "repeat", .str "do", .str "re", .str "zz", .str "zzzzzzzz", .str "ab", .str "ba", .str "one", .str "az", .str "za", .str "mi", .str "fa"] := by unfold mkN; rw [List.map_append]; rfl
  rw [← e2]
  exact q
end SC

set_option Elab.async false
set_option linter.all false
set_option maxRecDepth 100000
namespace SC
open PySem L2 VL
theorem dkW {c m : Int} {Q : R → Option Sl → Prop} {X : Exn → Option Sl → Prop} (c0 : 0 ≤ c) (hn : c ≤ 1000000) (h0 : 0 < m) (h1 : m.natAbs < 2 ^ 9000) (q : ∀ r, 0 ≤ r → r < m → Q (.sh (.int r)) (some (.op 1 (.int (c + 1))))) :
    fs_law_drawX (some (.op 1 (.int c))) [.int m] Q X := by
  obtain ⟨n, rfl⟩ : ∃ n : Nat, c = (n : Int) := ⟨c.toNat, by omega⟩
  exact ⟨n, m, rfl, by omega, rfl, h0, h1, fun r r0 r1 => q r r0 r1⟩
theorem dk {c m : Int} {Q : R → Option Sl → Prop} {X : Exn → Option Sl → Prop} (c0 : 0 ≤ c) (hn : c ≤ 1000000) (h0 : 0 < m) (h1 : m < 2 ^ 64) (q : ∀ r, 0 ≤ r → r < m → Q (.sh (.int r)) (some (.op 1 (.int (c + 1))))) :
    fs_law_drawX (some (.op 1 (.int c))) [.int m] Q X := dkW c0 hn h0 (Nat.lt_of_lt_of_le (by omega : m.natAbs < 2 ^ 64) (Nat.pow_le_pow_right (by decide) (by decide))) q
theorem fPop_i {l : List D} {r : Int} {k : List D → D → Prop} {d : D} (h0 : 0 ≤ r) (hd : l[r.toNat]? = some d) (hz : l.length < 2 ^ 62) (q : k (l.eraseIdx r.toNat) d) : fPop l [.int r] k := by
  have hl := (List.getElem?_eq_some_iff.mp hd).1
  have e : ixN l.length r = some r.toNat := by unfold ixN; rw [if_pos h0, if_pos (by omega)]
  unfold fPop
  simp only [e, hd]
  exact ⟨hz, q⟩
theorem erase_map (f : Str → D) : ∀ (l : List Str) (j : Nat), (l.map f).eraseIdx j = (l.eraseIdx j).map f
  | [], _ => rfl
  | _ :: _, 0 => rfl
  | a :: l, j + 1 => by
    show f a :: (l.map f).eraseIdx j = f a :: (l.eraseIdx j).map f
    rw [erase_map f l j]
theorem erase_nd : ∀ {l : List Str} {j : Nat} {n : Str}, l.Nodup → l[j]? = some n → n ∉ l.eraseIdx j
  | [], _, _, _, h => by simp at h
  | a :: l, 0, n, hn, h => by
    have : a = n := by simpa using h
    subst this
    exact (List.nodup_cons.mp hn).1
  | a :: l, j + 1, n, hn, h => by
    have h : l[j]? = some n := by simpa using h
    have hn := List.nodup_cons.mp hn
    intro z
    rcases List.mem_cons.mp z with z | z
    · exact hn.1 (z ▸ List.mem_of_getElem? h)
    · exact erase_nd hn.2 h z
def fs_law_items : FS := fun io ds Q _ => ∃ (c most wide : Int), io = some (.op 1 (.int c)) ∧ 0 ≤ c ∧ c ≤ 900000 ∧ ds = [.int most, .int wide] ∧ 0 ≤ most ∧ most ≤ 300 ∧ 0 < wide ∧ wide ≤ 1000000000 ∧
  ∀ (l : List It) (c' : Int), ok [] l → (l.length : Int) ≤ most → c ≤ c' → c' ≤ c + 3000 → Q (.ow (.list (sc l))) (some (.op 1 (.int c')))
def w_law_items : WS := wSeq (wPar [3, 4, 5] (wsCons (wLst (wNil)) (wsCons (wLst (wNil)) (wsCons (wCall fs_law_mark_names [] (wNil)) (wsNil))))) (wSeq (wFor (wiR1 (wCons (wCallIo fs_law_drawX 0 [] (wCons (wOp oAdd (wVar 1) (wC (.int 1))) (wNil))) (wNil))) (wgName 6) (wSeq (wSet 7 (wCallIo fs_law_drawX 0 [] (wCons (wC (.int 7)) (wNil)))) (wIfS (wOr (wAnd (wT (wOp (oIB fun i j => decide (i < j)) (wVar 7) (wC (.int 2)))) (wT (wOp oNe (wVar 5) (wLst (wNil))))) (wAnd (wT (wOp oEq (wVar 6) (wC (.int 0)))) (wT (wOp (oIB fun i j => decide (i < j)) (wVar 7) (wC (.int 5)))))) (wSeq (wDrop (wMut 4 fAppend (wCons (wMut 5 fPop (wCons (wCallIo fs_law_drawX 0 [] (wCons (wCB (o1 oLen) (wCons (wVar 5) (wNil))) (wNil))) wNil)) wNil))) (wDrop (wMut 3 fAppend (wCons (wTup (wCons (wC (.str "mark")) (wCons (wOp oIx (wVar 4) (wUn (fun a k => isI a fun i => k (.sh (.int (-i)))) (wC (.int 1)))) (wNil)))) wNil)))) (wIfS (wAnd (wT (wOp (oIB fun i j => decide (i < j)) (wVar 7) (wC (.int 4)))) (wT (wOp oNe (wVar 4) (wLst (wNil))))) (wSeq (wSet 8 (wOp oAdd (wC (.int 1)) (wOp oIx (wLst (wCons (wCallIo fs_law_drawX 0 [] (wCons (wC (.int 2)) (wNil))) (wCons (wCallIo fs_law_drawX 0 [] (wCons (wVar 2) (wNil))) (wNil)))) (wCallIo fs_law_drawX 0 [] (wCons (wC (.int 2)) (wNil)))))) (wDrop (wMut 3 fAppend (wCons (wTup (wCons (wC (.str "repeat")) (wCons (wOp oIx (wVar 4) (wCallIo fs_law_drawX 0 [] (wCons (wCB (o1 oLen) (wCons (wVar 4) (wNil))) (wNil)))) (wCons (wVar 8) (wNil))))) wNil)))) (wDrop (wMut 3 fAppend (wCons (wTup (wCons (wC (.str "bar")) (wCons (wOp oIx (wLst (wCons (wC (.str "a")) (wCons (wC (.str "b")) (wCons (wC (.str "c")) (wCons (wC (.str "do")) (wCons (wC (.str "zzzzzzzz")) (wNil))))))) (wCallIo fs_law_drawX 0 [] (wCons (wC (.int 5)) (wNil)))) (wNil)))) wNil))))))) (wRet (wVar 3)))
structure DkI (l : List It) (ms us : List Str) (i : Nat) : Prop where
  h : ok [] l
  hl : l.length ≤ i
  mm : ∀ x, x ∈ mk [] l ↔ x ∈ ms
  un : ∀ x ∈ us, nameB x = true ∧ x ∉ ms
  nd : us.Nodup
  ul : us.length ≤ 40
  ln : 40 ≤ us.length + i
  nm : ∀ x ∈ ms, nameB x = true
  ml : ms.length ≤ i
theorem DkI.bar {l : List It} {ms us : List Str} {i : Nat} (I : DkI l ms us i) {n : Str} (hn : nameB n = true) : DkI (l ++ [.bar n]) ms us (i + 1) := by
  have h1 := I.hl; have h2 := I.ul; have h3 := I.ln; have h4 := I.ml
  exact ⟨(ok_app _ _ _).mpr ⟨I.h, hn, trivial⟩, by simp; omega, fun x => by rw [mk_app]; exact I.mm x, I.un, I.nd, I.ul, by omega, I.nm, by omega⟩
theorem DkI.rep {l : List It} {ms us : List Str} {i : Nat} (I : DkI l ms us i) {n : Str} (hn : n ∈ ms) {c : Int} (c1 : 1 ≤ c) (c2 : c < 2 ^ 31) : DkI (l ++ [.rep n c]) ms us (i + 1) := by
  have h1 := I.hl; have h2 := I.ul; have h3 := I.ln; have h4 := I.ml
  exact ⟨(ok_app _ _ _).mpr ⟨I.h, I.nm n hn, (I.mm n).mpr hn, ⟨c1, c2⟩, trivial⟩, by simp; omega, fun x => by rw [mk_app]; exact I.mm x, I.un, I.nd, I.ul, by omega, I.nm, by omega⟩
theorem DkI.mark {l : List It} {ms us : List Str} {i j : Nat} {n : Str} (I : DkI l ms us i) (hj : us[j]? = some n) : DkI (l ++ [.mark n]) (ms ++ [n]) (us.eraseIdx j) (i + 1) := by
  have h1 := I.hl; have h2 := I.ul; have h3 := I.ln; have h4 := I.ml
  have hjl := (List.getElem?_eq_some_iff.mp hj).1
  have hu := I.un n (List.mem_of_getElem? hj)
  have el : (us.eraseIdx j).length = us.length - 1 := by rw [List.length_eraseIdx]; simp [hjl]
  refine ⟨(ok_app _ _ _).mpr ⟨I.h, hu.1, fun z => hu.2 ((I.mm n).mp z), trivial⟩, by simp; omega, fun x => ?_, fun x hx => ?_, I.nd.sublist (List.eraseIdx_sublist _ _), by omega, by omega, fun x hx => ?_, by simp; omega⟩
  · rw [mk_app]
    show x ∈ n :: SC.mk [] l ↔ _
    rw [List.mem_cons, List.mem_append, I.mm x]
    simp [or_comm]
  · have hx2 := List.mem_of_mem_eraseIdx hx
    refine ⟨(I.un x hx2).1, fun z => ?_⟩
    rcases List.mem_append.mp z with z | z
    · exact (I.un x hx2).2 z
    · have : x = n := by simpa using z
      subst this
      exact erase_nd I.nd hj hx
  · rcases List.mem_append.mp hx with z | z
    · exact I.nm x z
    · have : x = n := by simpa using z
      rw [this]; exact hu.1
theorem barN : ∀ x ∈ ([.str "a", .str "b", .str "c", .str "do", .str "zzzzzzzz"] : List D), ∃ n : Str, x = .str n ∧ nameB n = true := by
  intro x hx
  simp only [List.mem_cons, List.not_mem_nil, or_false] at hx
  rcases hx with rfl | rfl | rfl | rfl | rfl
  · exact ⟨_, rfl, by decide +kernel⟩
  · exact ⟨_, rfl, by decide +kernel⟩
  · exact ⟨_, rfl, by decide +kernel⟩
  · exact ⟨_, rfl, by decide +kernel⟩
  · exact ⟨_, rfl, by decide +kernel⟩
theorem fv_law_items : FnV fs_law_items 9 w_law_items := by
  rintro io ds Q X ⟨c, most, wide, rfl, c0, hn, rfl, m0, m1, w0, w1, q⟩
  show w_law_items [.op 1 (.int c), .sh (.int most), .sh (.int wide), .no, .no, .no, .no, .no, .no] _ _
  simp [w_law_items, ev_wFor]
  refine ⟨rfl, rfl, ?_⟩
  simp
  refine dk (by omega) (by omega) (by omega) (by omega) fun r r0 r1 => ?_
  simp
  refine ⟨by omega, by omega, ?_⟩
  refine loop_inv (fun i Γ => ∃ (l : List It) (ms us : List Str) (cc : Int) (a6 a7 a8 : Sl), Γ = [.op 1 (.int cc), .sh (.int most), .sh (.int wide), .ow (.list (sc l)), .ow (.list (ms.map .str)), .ow (.list (us.map .str)), a6, a7, a8] ∧ DkI l ms us i ∧ c ≤ cc ∧ cc ≤ c + 1 + 8 * i) ?_ ?_ ?_
  · have h40 := mkN_ok.1
    exact ⟨[], [], mkN, c + 1, _, _, _, rfl, ⟨trivial, Nat.zero_le _, fun x => Iff.rfl, fun x hx => ⟨mkN_ok.2.1 x hx, fun z => nomatch z⟩, mkN_ok.2.2, by omega, by omega, (fun x hx => nomatch hx), Nat.zero_le _⟩, by omega, by omega⟩
  · rintro i x Γ k hx ⟨l, ms, us, cc, a6, a7, a8, rfl, I, n1, n2⟩ hk
    have hi := (List.getElem?_eq_some_iff.mp hx).1
    simp [rangeD] at hi
    simp only [rangeD, List.getElem?_map] at hx
    rw [List.getElem?_range (by omega)] at hx
    cases (Option.some.inj hx)
    have shu : SeqAt.shaped (.list (us.map .str)) = true := shaped_strs fun n hn => name_strOk (I.un n hn).1
    have shm : SeqAt.shaped (.list (ms.map .str)) = true := shaped_strs fun n hn => name_strOk (I.nm n hn)
    have sh0 : SeqAt.shaped (.list []) = true := shaped_strs (ys := []) fun n hn => (nomatch hn)
    have eu : PyData.eqv (.list (us.map .str)) (.list []) = decide (us = []) := eqv_strs us []
    have em : PyData.eqv (.list (ms.map .str)) (.list []) = decide (ms = []) := eqv_strs ms []
    have hul := I.ul
    have hml := I.ml
    have hll := I.hl
    simp
    refine dk (by omega) (by omega) (by omega) (by omega) fun w y0 y1 => ?_
    simp [shu, shm, sh0, eu, em, shaped_int, eqv_int]
    have hz1 : l.length < sizeLine := Nat.lt_of_lt_of_le (Nat.lt_succ_self _) (smallE (by omega))
    have hz2 : ms.length < sizeLine := Nat.lt_of_lt_of_le (Nat.lt_succ_self _) (smallE (by omega))
    have hln := I.ln
    have hzz : 0 < sizeLine := Nat.lt_of_lt_of_le (Nat.lt_succ_self 0) (smallE (by decide))
    by_cases hU : us = [] <;> by_cases hM : ms = []
    · have hu0 : us.length = 0 := by rw [hU]; rfl
      have hi0 : ¬ i = 0 := by omega
      subst hU hM
      simp [hi0]
      refine dk (by omega) (by omega) (by omega) (by omega) fun j j0 j1 => ?_
      simp
      refine pick j0 (by simpa using j1) fun x hx => ?_
      obtain ⟨n, rfl, hn1⟩ := barN x hx
      simp [sc_length]
      exact ⟨hz1, hk _ ⟨l ++ [.bar n], [], [], cc + 1 + 1, _, _, _, (by simp [sc, It.d]; exact ⟨rfl, rfl, rfl⟩), I.bar hn1, by omega, by omega⟩⟩
    · have hu0 : us.length = 0 := by rw [hU]; rfl
      have hi0 : ¬ i = 0 := by omega
      have hm0 : 0 < ms.length := List.length_pos_iff.mpr hM
      subst hU
      simp [hi0, hM]
      split
      · refine dk (by omega) (by omega) (by omega) (by omega) fun ja ja0 ja1 => ?_
        simp
        refine dk (by omega) (by omega) (by omega) (by omega) fun jb jb0 jb1 => ?_
        simp
        refine dk (by omega) (by omega) (by omega) (by omega) fun jc jc0 jc1 => ?_
        have hidx : ∃ v : Int, 0 ≤ v ∧ v < 1000000000 ∧ ∀ k : R → Prop, oIx (.list [.int ja, .int jb]) (.int jc) k = k (.sh (.int v)) := by
          rcases two jc0 jc1 with rfl | rfl
          · exact ⟨ja, by omega, by omega, fun k => rfl⟩
          · exact ⟨jb, by omega, by omega, fun k => rfl⟩
        obtain ⟨v, v0, v1, hv⟩ := hidx
        simp [hv]
        refine dk (by omega) (by omega) (by omega) (by omega) fun j j0 j1 => ?_
        obtain ⟨jn, rfl⟩ : ∃ jn : Nat, j = (jn : Int) := ⟨j.toNat, by omega⟩
        obtain ⟨n, hn1⟩ : ∃ n, ms[jn]? = some n := ⟨_, List.getElem?_eq_getElem (by omega)⟩
        have hm2 : (ms.map PyData.str)[jn]? = some (.str n) := by rw [List.getElem?_map, hn1]; rfl
        have iy := fun k => ix_lnE (k := k) hm2
        simp [iy, sc_length]
        exact ⟨hz1, hk _ ⟨l ++ [.rep n (1 + v)], ms, [], cc + 1 + 1 + 1 + 1 + 1, _, _, _, (by simp [sc, It.d]; exact ⟨rfl, rfl, rfl⟩), I.rep (List.mem_of_getElem? hn1) (by omega) (by omega), by omega, by omega⟩⟩
      · refine dk (by omega) (by omega) (by omega) (by omega) fun j j0 j1 => ?_
        simp
        refine pick j0 (by simpa using j1) fun x hx => ?_
        obtain ⟨n, rfl, hn1⟩ := barN x hx
        simp [sc_length]
        exact ⟨hz1, hk _ ⟨l ++ [.bar n], ms, [], cc + 1 + 1, _, _, _, (by simp [sc, It.d]; exact ⟨rfl, rfl, rfl⟩), I.bar hn1, by omega, by omega⟩⟩
    · have hu0 : 0 < us.length := List.length_pos_iff.mpr hU
      subst hM
      simp [hU]
      repeat' split
      all_goals first
        | (
            refine dk (by omega) (by omega) (by omega) (by omega) fun j j0 j1 => ?_
            obtain ⟨n, hn1⟩ : ∃ n, us[j.toNat]? = some n := ⟨_, List.getElem?_eq_getElem (by omega)⟩
            have hlast : ([.str n] : List D).getLast? = some (.str n) := by simp
            simp
            refine fPop_i j0 (d := .str n) (by rw [List.getElem?_map, hn1]; rfl) (by rw [List.length_map]; omega) ?_
            simp [ix_lastE hlast, sc_length]
            exact ⟨hzz, hz1, hk _ ⟨l ++ [.mark n], [] ++ [n], us.eraseIdx j.toNat, cc + 1 + 1, _, _, _, (by simp [sc, It.d, erase_map]; exact ⟨rfl, rfl, rfl⟩), I.mark hn1, by omega, by omega⟩⟩)
        | (
            refine dk (by omega) (by omega) (by omega) (by omega) fun j j0 j1 => ?_
            simp
            refine pick j0 (by simpa using j1) fun x hx => ?_
            obtain ⟨n, rfl, hn1⟩ := barN x hx
            simp [sc_length]
            exact ⟨hz1, hk _ ⟨l ++ [.bar n], [], us, cc + 1 + 1, _, _, _, (by simp [sc, It.d]; exact ⟨rfl, rfl, rfl⟩), I.bar hn1, by omega, by omega⟩⟩)
    · have hu0 : 0 < us.length := List.length_pos_iff.mpr hU
      have hm0 : 0 < ms.length := List.length_pos_iff.mpr hM
      simp [hU, hM]
      repeat' split
      all_goals first
        | (
            refine dk (by omega) (by omega) (by omega) (by omega) fun j j0 j1 => ?_
            obtain ⟨n, hn1⟩ : ∃ n, us[j.toNat]? = some n := ⟨_, List.getElem?_eq_getElem (by omega)⟩
            have hlast : (ms.map PyData.str ++ [PyData.str n]).getLast? = some (PyData.str n) := by simp
            simp
            refine fPop_i j0 (d := .str n) (by rw [List.getElem?_map, hn1]; rfl) (by rw [List.length_map]; omega) ?_
            simp [ix_lastE hlast, sc_length]
            exact ⟨hz2, hz1, hk _ ⟨l ++ [.mark n], ms ++ [n], us.eraseIdx j.toNat, cc + 1 + 1, _, _, _, (by simp [sc, It.d, erase_map]; exact ⟨rfl, rfl, rfl⟩), I.mark hn1, by omega, by omega⟩⟩)
        | (
            refine dk (by omega) (by omega) (by omega) (by omega) fun ja ja0 ja1 => ?_
            simp
            refine dk (by omega) (by omega) (by omega) (by omega) fun jb jb0 jb1 => ?_
            simp
            refine dk (by omega) (by omega) (by omega) (by omega) fun jc jc0 jc1 => ?_
            have hidx : ∃ v : Int, 0 ≤ v ∧ v < 1000000000 ∧ ∀ k : R → Prop, oIx (.list [.int ja, .int jb]) (.int jc) k = k (.sh (.int v)) := by
              rcases two jc0 jc1 with rfl | rfl
              · exact ⟨ja, by omega, by omega, fun k => rfl⟩
              · exact ⟨jb, by omega, by omega, fun k => rfl⟩
            obtain ⟨v, v0, v1, hv⟩ := hidx
            simp [hv]
            refine dk (by omega) (by omega) (by omega) (by omega) fun j j0 j1 => ?_
            obtain ⟨jn, rfl⟩ : ∃ jn : Nat, j = (jn : Int) := ⟨j.toNat, by omega⟩
            obtain ⟨n, hn1⟩ : ∃ n, ms[jn]? = some n := ⟨_, List.getElem?_eq_getElem (by omega)⟩
            have hm2 : (ms.map PyData.str)[jn]? = some (.str n) := by rw [List.getElem?_map, hn1]; rfl
            have iy := fun k => ix_lnE (k := k) hm2
            simp [iy, sc_length]
            exact ⟨hz1, hk _ ⟨l ++ [.rep n (1 + v)], ms, us, cc + 1 + 1 + 1 + 1 + 1, _, _, _, (by simp [sc, It.d]; exact ⟨rfl, rfl, rfl⟩), I.rep (List.mem_of_getElem? hn1) (by omega) (by omega), by omega, by omega⟩⟩)
        | (
            refine dk (by omega) (by omega) (by omega) (by omega) fun j j0 j1 => ?_
            simp
            refine pick j0 (by simpa using j1) fun x hx => ?_
            obtain ⟨n, rfl, hn1⟩ := barN x hx
            simp [sc_length]
            exact ⟨hz1, hk _ ⟨l ++ [.bar n], ms, us, cc + 1 + 1, _, _, _, (by simp [sc, It.d]; exact ⟨rfl, rfl, rfl⟩), I.bar hn1, by omega, by omega⟩⟩)
  · rintro Γ ⟨l, ms, us, cc, a6, a7, a8, rfl, I, n1, n2⟩
    simp
    have e : (rangeD 0 r.toNat).length = r.toNat := by simp [rangeD]
    rw [e] at n2 I
    have := I.hl
    exact q l cc I.h (by omega) (by omega) (by omega)
end SC

set_option Elab.async false
set_option linter.all false
set_option maxRecDepth 100000
set_option pp.maxSteps 600
namespace SC
open PySem L2 VL

end SC

set_option Elab.async false
set_option linter.all false
set_option maxRecDepth 100000
namespace VL
open PySem L2
def wCallMx (fs : FS) (is : List Nat) (n m : Nat) (wa wk : WA) : WE := fun Γ Q X => wa Γ (fun rs Γ1 => wk Γ1 (fun rs2 Γ2 => frAll (rs ++ rs2) Γ2 fun ds Γ3 => rs.length = n ∧ rs2.length = m ∧ fs none (reord is ds) (fun r _ => Q r Γ3) fun x _ => X x Γ3) X) X
def GdM (P : Program) (wd : World) (G : Gb) (mg : Str → Option Value) (base : Heap) (k : Nat) (x : Str) (fs : FS) (ps : List Str) (n : Nat) (ks : List Str) (is : List Nat) : Prop :=
  ∃ (f : Addr) (fd : FuncData), mg x = some (.ref f) ∧ PySem.W.keepIn G.K (.ref f) = true ∧ FnOk P wd G.K mg base (L2N.CX P wd) k f fd ps (lift G fs) ∧ ∀ (s : Shared) (us ws : List Value), us.length = n → ws.length = ks.length → BindsTo s fd ⟨us, ks.zip ws⟩ (ps.zip (reord is (us ++ ws)))
theorem GdM.mono {P : Program} {wd : World} {G : Gb} {mg : Str → Option Value} {base : Heap} {k k' : Nat} {x : Str} {fs : FS} {ps ks : List Str} {n : Nat} {is : List Nat} (h : GdM P wd G mg base k x fs ps n ks is) (l : k ≤ k') : GdM P wd G mg base k' x fs ps n ks is :=
  let ⟨f, fd, h1, h2, h3, h4⟩ := h
  ⟨f, fd, h1, h2, h3.mono l, h4⟩
theorem Holds.len {G : Gb} {Hi : Hp} {σ : St} {vs : List V} {rs : List R} (h : Holds G Hi σ vs rs) : vs.length = rs.length := by
  induction h with
  | nil => rfl
  | cons a r ih => simp [ih]
section
variable {X : Cx} {G : Gb} {W : WX} {e : Expr} {es : List Expr} {te : TE} {we : WE} {pos p kpos : Pos} {t tk : TA} {w wk : WA} {kws : List Keyword} {nm : Option Str} {k n : Nat} {x : Str} {fs : FS} {ps ks : List Str} {is : List Nat}
end
@[simp ↓] theorem ev_wCallMx (fs : FS) (is : List Nat) (n m : Nat) (wa wk : WA) (Γ : Ev) (Q : R → Ev → Prop) (X : XW) : wCallMx fs is n m wa wk Γ Q X =
    wa Γ (fun rs Γ1 => wk Γ1 (fun rs2 Γ2 => frAll (rs ++ rs2) Γ2 fun ds Γ3 => rs.length = n ∧ rs2.length = m ∧ fs none (reord is ds) (fun r _ => Q r Γ3) fun x _ => X x Γ3) X) X := rfl
end VL
namespace L2
open PySem PySem.Spec PyProof.Rows
end L2

set_option Elab.async false
set_option linter.all false
set_option maxRecDepth 100000
namespace SC
open PySem L2 VL
end SC

set_option Elab.async false
set_option linter.all false
set_option maxRecDepth 100000
namespace SC
open PySem L2 VL
def RpD (l : List It) (n : Nat) : List (D × D) := ((List.range n).filter (isRep l)).map fun r : Nat => ((PyData.int (r : Int), PyData.int ((stt l r : Nat) : Int)) : D × D)
theorem RpD_succ (l : List It) (n : Nat) : RpD l (n + 1) = if isRep l n = true then RpD l n ++ [(.int (n : Int), .int ((stt l n : Nat) : Int))] else RpD l n := by
  unfold RpD
  rw [List.range_succ, List.filter_append, List.map_append]
  by_cases h : isRep l n = true
  · rw [if_pos h]; simp [h]
  · rw [if_neg h]; simp [h]
theorem RpD_len (l : List It) (n : Nat) : (RpD l n).length ≤ n := by
  unfold RpD
  rw [List.length_map]
  exact Nat.le_trans (List.length_filter_le _ _) (by rw [List.length_range]; exact Nat.le_refl _)
theorem RpD_put (l : List It) (n : Nat) (v : D) : dput (RpD l n) (.int (n : Int)) v = RpD l n ++ [(.int (n : Int), v)] := by
  have h : (RpD l n).any (fun p => keyEq p.1 (.int (n : Int))) = false := by
    rw [List.any_eq_false]
    intro p hp
    unfold RpD at hp
    obtain ⟨r, hr, rfl⟩ := List.mem_map.mp hp
    have := List.mem_range.mp (List.mem_filter.mp hr).1
    have z : ¬ (r : Int) = (n : Int) := by omega
    simp [keyEq, z]
  unfold dput
  rw [h]
  simp
theorem enumF_it {l : List It} {i n : Nat} {d : D} (h : (enumF n (sc l))[i]? = some d) : ∃ it, l[i]? = some it ∧ d = .tuple [.int ((n + i : Nat) : Int), it.d] := by
  induction l generalizing i n with
  | nil => simp [enumF, sc] at h
  | cons it l ih =>
    rw [show sc (it :: l) = it.d :: sc l from rfl, enumF] at h
    cases i with
    | zero =>
      simp at h
      exact ⟨it, rfl, by rw [← h]; rfl⟩
    | succ i =>
      obtain ⟨x, h1, h2⟩ := ih (i := i) (n := n + 1) (by simpa using h)
      exact ⟨x, by simpa using h1, by rw [h2, show n + 1 + i = n + (i + 1) by omega]⟩
theorem enumF_length : ∀ (l : List D) (n : Nat), (enumF n l).length = l.length
  | [], _ => rfl
  | d :: l, n => by rw [enumF, List.length_cons, List.length_cons, enumF_length l]
end SC

set_option Elab.async false
set_option linter.all false
set_option maxRecDepth 100000
namespace VL
open PySem L2
section
variable {X : Cx} {G : Gb} {W : WX}
def oIdx : OpMR := fun d ds k => match ds with
  | [e] => isL d fun l => SeqAt.shaped (.list l) = true ∧ SeqAt.shaped e = true ∧ ∃ (j : Nat) (z : D), l[j]? = some z ∧ PyData.eqv z e = true ∧ (∀ (m : Nat) (z' : D), m < j → l[m]? = some z' → PyData.eqv z' e = false) ∧ k (.sh (.int (j : Nat)))
  | _ => False
theorem sem_idx : SemMR G (rIndexD G.K) oIdx := by
  intro C Hi σ H Γ x xs d ds k Q c hd hs h q
  unfold oIdx at h
  split at h
  · cases hs with
    | cons b1 r1 =>
      cases r1
      obtain ⟨l, rfl, s1, s2, j, z, hz, he, hno, h3⟩ := isL_inv h
      have dp := hd.dp c.imm s1
      obtain ⟨p, ys, rfl, t1, rr⟩ := hd.list c.imm
      exact ⟨p, _, _, l, j, z, rfl, rfl, dp, b1.dp c.imm s2, s1, s2, hz, he, hno, q _ _ H Hi (Ext.refl _) (out_int c _) h3⟩
  · exact h.elim
theorem de_index {o e : Expr} {to te : TE} {wo we : WE} {apos cpos : Pos} (hK : X.K = G.K) (hu : X.A.units + 65 < cLine) (ho : DE X G W o to wo) (he : DE X G W e te we)
    (h1 : attributeBase o "index" X.env (eval o X.env) = eval o X.env := by rfl)
    (h2 : ((backTo cpos (starEach [e] X.env)).all (fun x => !x.1) && (backToKw cpos (keywordEach [] X.env)).all (fun x => x.1.isSome)
      && decide (([e] : List Expr).length + ([] : List Keyword).length + (if ([] : List Keyword).isEmpty then 0 else 1) < 30)) = true := by rfl)
    (h3 : (apos.endLine == cpos.line) = true := by rfl) (h4 : starEach [e] X.env = (false, eval e X.env) :: starEach [] X.env := by rfl) (h5 : (backTo cpos (starEach [] X.env)).any (·.1) = false := by rfl) :
    DE X G W (.Call (.Attribute o "index" apos) [e] [] cpos) (tBM G.K "list" (rIndexD G.K) to (tCons te tNil)) (wMR "list" oIdx wo (wCons we wNil)) :=
  de_mr hK PySem.F.plainAttrs_list PySem.F.slot_list_index PySem.F.type_list_index (by rw [← hK]; exact mt_indexD hu) sem_idx ho (da_cons he da_nil h4) h1 h2 h3 h4 h5
@[simp ↓] theorem ev_idx (l : List D) (e : D) (k : R → Prop) : oIdx (.list l) [e] k = (SeqAt.shaped (.list l) = true ∧ SeqAt.shaped e = true ∧ ∃ (j : Nat) (z : D), l[j]? = some z ∧ PyData.eqv z e = true ∧ (∀ (m : Nat) (z' : D), m < j → l[m]? = some z' → PyData.eqv z' e = false) ∧ k (.sh (.int (j : Nat)))) := rfl
end
end VL

set_option Elab.async false
set_option linter.all false
set_option maxRecDepth 100000
set_option maxHeartbeats 2000000
namespace SC
open PySem PySem.Spec PyProof.Rows L2
section
variable {X : Cx}
def rSortedDI : List V → Hp → VK → Prop := fun xs H Q => ∃ (a : Addr) (kvs : List (Key × V)) (ks : List Int), xs = [.ref a] ∧ Rd H a (.dK kvs) ∧ kvs.map (·.1) = ks.map Sum.inl ∧ ks.length ≤ sizeLine ∧
    ∀ (ys : List Int) (p : Addr), ys.Perm ks → ys.Pairwise (· ≤ ·) → H p = none → Q (.ref p) (upd H p (.lst (ys.map V.int)))
theorem cr_sortedDI (hcalm : X.calm = true) : CallR X (.builtin "sorted") rSortedDI := by
  rintro pins s σ H xs us Q I r ⟨a, kvs, ks, rfl, hd, hks, hz, q⟩
  obtain ⟨u, rfl, rx⟩ := vals1 r
  cases rx
  obtain ⟨z, lo, vs, rel, dd⟩ := dk_rd I.hok hd
  obtain ⟨ep, hat⟩ := dd.dictAt
  have hkeys : vs.map (·.1) = ks.map Sum.inl := rel.keys.symm.trans hks
  have hl : vs.length = ks.length := by simpa using congrArg List.length hkeys
  refine Calls.call_function_entry PyProof.Rows.kind_sorted PyProof.Rows.plain_sorted PyProof.Rows.entry_sorted (PyProof.Rows.args_sorted1 _) ?_
  unfold Builtin.«sorted»
  refine wpAny_bind (m := checkCount "sorted" 1 1 _) (wpAny_pure ?_)
  refine wpAny_bind (PySem.W.kdu_collect (A := X.A.in1) (PySem.W.kdl_dict (knd := mixKind X.prog X.w) (kvs := vs) (ep := ep) lo) (I.ok.hd hcalm) hat (hl ▸ hz) fun h' tk acc kept got => ?_)
  have hn : acc.toList.length = ks.length := by simpa [hl] using got.1
  have hS : IntsAre acc.toList ks := ints_each hn fun j v e => by
    obtain ⟨k, x, e1, e2⟩ := got.2 j v (by rw [← Array.getElem?_toList]; exact e)
    have e3 : (vs.map (·.1))[j]? = some k := by rw [List.getElem?_map, e1]; rfl
    rw [hkeys, List.getElem?_map] at e3
    cases e4 : ks[j]? with
    | none => rw [e4] at e3; cases e3
    | some y =>
      rw [e4] at e3
      have e5 : Sum.inl y = k := Option.some.inj e3
      subst e5
      rcases keyIs_shape (show keyIs (Sum.inl y) v = true from e2) with ⟨i, t, ek, ev⟩ | ⟨z, t, ek, ev⟩
      · cases ek
        exact ⟨y, t, rfl, ev⟩
      · cases ek
  have J : Inv X pins σ H { s with heap := h', toks := tk } := I.kept kept
  have ho : (h'.push (seqObj "list" acc.toList.toArray 0)).get? h'.objs.size = some (seqObj "list" acc.toList.toArray 0) := Heap.get?_push_size _ rfl
  refine wpAny_bind (wpAny_newList ?_ (hn ▸ hz))
  refine wpAny_bind (wpAny_holding (wpAny_call_entry PyProof.Rows.slot_list_sort ⟨_, ho, rfl⟩ PyProof.Rows.entry_list_sort
    (SrtO.list_sort_ord (s := { s with heap := h'.push (seqObj "list" acc.toList.toArray 0), toks := tk }) SrtO.swo_int ho (hn ▸ hz) (fun h2 => SrtO.ints_sortable hS h2) fun out h1 h2 => ⟨_, rfl, ?_⟩)
    (PyProof.Rows.args_list_sort _)))
  obtain ⟨k1, k2, k3⟩ := SrtO.ints_out hS h1 h2
  obtain ⟨e', he⟩ := PyProof.Rows.sortedHeap_at (vs := acc.toList) (out := out.toArray) ho
  have hy : ((out.map SrtO.iv).map V.int).length ≤ sizeLine := by
    rw [List.length_map, k2.length_eq]
    exact hz
  refine wpAny_pure ⟨_, rfl, .ref h'.objs.size, upd H h'.objs.size (.lst ((out.map SrtO.iv).map V.int)), J.laid (t' := tk) (fun b u e => ?_) (Nat.le_refl _)
    (show ObjOk X.prog X.w _ _ _ (.lst ((out.map SrtO.iv).map V.int)) from ⟨hy, out, e', vals_of_ints k1, he⟩), rfl, q _ _ k2 k3 (J.hok.fresh (Nat.le_refl _))⟩
  have hb : b < h'.objs.size := Heap.lt_size e
  rw [PyProof.Rows.sortedHeap_old (Nat.ne_of_lt hb) (by rw [size_push']; exact Nat.lt_succ_of_lt hb)]
  exact Heap.get?_push_of_some _ e
end
end SC
namespace VL
open PySem L2
variable {X : Cx} {G : Gb} {H : Hp}
def oSortDI : Op1 := fun d k => isD d fun ps => ∃ ks : List Int, ps.map (·.1) = ks.map .int ∧ ks.length ≤ sizeLine ∧ ∀ ys : List Int, ys.Perm ks → ys.Pairwise (· ≤ ·) → k (.ow (.list (ys.map .int)))
theorem sem_sortDI : SemN G SC.rSortedDI (o1 oSortDI) := by
  refine semN_1 ?_
  intro C Hi σ H Γ x a k Q c ha h q
  obtain ⟨ps, rfl, ks, e1, e2, h1⟩ := isD_inv h
  obtain ⟨p, kvs, rfl, s1, r1⟩ := ha.dict c.imm
  exact ⟨p, kvs, ks, rfl, s1, repKV_keysI r1 e1, e2, fun ys p' hp hs hn => q _ _ _ Hi (Ext.refl _) (Out.newL c hn (ints_reps ys)) (h1 ys hp hs)⟩
theorem b_sortDI (hc : X.calm = true) : B1 X G "sorted" SC.rSortedDI (o1 oSortDI) := ⟨SC.cr_sortedDI hc, sem_sortDI⟩
theorem ev_sortDI (ps : List (D × D)) (k : R → Prop) : oSortDI (.dict ps) k = ∃ ks : List Int, ps.map (·.1) = ks.map .int ∧ ks.length ≤ sizeLine ∧ ∀ ys : List Int, ys.Perm ks → ys.Pairwise (· ≤ ·) → k (.ow (.list (ys.map .int))) := rfl
end VL

set_option Elab.async false
set_option linter.all false
set_option maxRecDepth 100000
namespace SC
open PySem L2 VL
theorem RpD_get {l : List It} {i n : Nat} (hi : i < n) (hr : isRep l i = true) : dget (RpD l n) (.int (i : Int)) = some (.int ((stt l i : Nat) : Int)) := by
  induction n with
  | zero => omega
  | succ n ih =>
    rw [RpD_succ]
    by_cases z : i = n
    · subst z
      rw [if_pos hr, ← RpD_put, dget_putI, if_pos rfl]
    · by_cases h : isRep l n = true
      · rw [if_pos h, ← RpD_put, dget_putI, if_neg (by omega)]
        exact ih (by omega)
      · rw [if_neg h]
        exact ih (by omega)
theorem idx_mark {l : List It} (hok : ok [] l) (hl : l.length ≤ 1000) {i : Nat} {nm : Str} {cc : Int} (hit : l[i]? = some (.rep nm cc)) {k : R → Prop} (q : k (.sh (.int (((stt l i - 1 : Nat)) : Int)))) : oIdx (.list (sc l)) [.tuple [.str "mark", .str nm]] k := by
  obtain ⟨m, m1, m2, m3⟩ := stt_le hok hit
  have hsm : SeqAt.shaped (.tuple [.str "mark", .str nm]) = true := shaped_item (it := .mark nm) (ok_fine hok m2)
  rw [ev_idx]
  refine ⟨(score_shown hok (by omega)).1, hsm, m, .tuple [.str "mark", .str nm], by rw [sc, List.getElem?_map, m2]; rfl, by simp [PyData.eqv, PyData.eqvAll], fun m' z' hm' hz' => ?_, ?_⟩
  · rw [sc, List.getElem?_map] at hz'
    cases hx : l[m']? with
    | none => rw [hx] at hz'; cases hz'
    | some y =>
      rw [hx] at hz'
      cases (Option.some.inj hz')
      cases y with
      | bar b =>
        have : (("bar" : Str) == "mark") = false := by decide
        simp [It.d, PyData.eqv, PyData.eqvAll, this]
      | rep b c =>
        have : (("repeat" : Str) == "mark") = false := by decide
        simp [It.d, PyData.eqv, PyData.eqvAll, this]
      | mark b =>
        have hb : ¬ b = nm := fun e => by
          subst e
          have := stt_eq hok hit hx
          omega
        simp [It.d, PyData.eqv, PyData.eqvAll, hb]
  · rw [m3] at q
    simpa using q
def fs_law_starts : FS := fun io ds Q _ => io = none ∧ ∃ l : List It, ds = [.list (sc l)] ∧ ok [] l ∧ l.length ≤ 1000 ∧ Q (.ow (.dict (RpD l l.length))) none
def w_law_starts : WS := wSeq (wSet 1 (wDict0)) (wSeq (wFor (wiA enumD (wCons (wVar 0) (wNil))) (wgTup 2 (wgCons (wgName 2) (wgCons (wgName 3) (wgNil)))) (wIfS (wT (wOp oEq (wOp oIx (wVar 3) (wC (.int 0))) (wC (.str "repeat")))) (wDPut 1 (wVar 2) (wOp oAdd (wMR "list" oIdx (wVar 0) (wCons (wTup (wCons (wC (.str "mark")) (wCons (wOp oIx (wVar 3) (wC (.int 1))) (wNil)))) wNil)) (wC (.int 1)))) (wNext))) (wRet (wVar 1)))
theorem fv_law_starts : FnV fs_law_starts 4 w_law_starts := by
  rintro io ds Q X ⟨rfl, l, rfl, h, hl, q⟩
  show w_law_starts [.sh (.list (sc l)), .no, .no, .no] _ _
  simp [w_law_starts, ev_wFor, enumD_eq]
  refine loop_inv (fun i Γ => ∃ a2 a3 : Sl, Γ = [.sh (.list (sc l)), .ow (.dict (RpD l i)), a2, a3]) ⟨_, _, rfl⟩ ?_ ?_
  · rintro i d Γ k hd ⟨a2, a3, rfl⟩ hk
    obtain ⟨it, hit, rfl⟩ := enumF_it hd
    have hi := (List.getElem?_eq_some_iff.mp hit).1
    cases it with
    | bar nm =>
      have r : isRep l i = false := by unfold isRep; rw [hit]
      simp [It.d, sh_bar, sh_rep, eqv_str, br]
      exact hk _ ⟨_, _, by rw [RpD_succ, r]; rfl⟩
    | mark nm =>
      have r : isRep l i = false := by unfold isRep; rw [hit]
      simp [It.d, sh_mark, sh_rep, eqv_str, mr]
      exact hk _ ⟨_, _, by rw [RpD_succ, r]; rfl⟩
    | rep nm c =>
      have r : isRep l i = true := by unfold isRep; rw [hit]
      obtain ⟨j, j1, j2, j3⟩ := stt_le h hit
      simp [-ev_idx, It.d, sh_rep, eqv_str, rr]
      refine idx_mark h hl hit ?_
      simp
      refine ⟨Nat.lt_of_lt_of_le (Nat.lt_succ_self _) (smallE (by have := RpD_len l i; omega)), hk _ ⟨.sh (.int (i : Int)), .sh (.tuple [.str "repeat", .str nm, .int c]), ?_⟩⟩
      have ej : ((stt l i - 1 : Nat) : Int) + 1 = ((stt l i : Nat) : Int) := by omega
      rw [ej, RpD_put, RpD_succ, if_pos r]
  · rintro Γ ⟨a2, a3, rfl⟩
    have el : (enumF 0 (sc l)).length = l.length := by rw [enumF_length, sc_length]
    rw [el]
    simp
    exact q
def tlD (l : List It) (n : Nat) : List D := (List.range n).map fun k => PyData.int ((tl l k : Nat) : Int)
theorem tlD_length (l : List It) (n : Nat) : (tlD l n).length = n := by unfold tlD; rw [List.length_map, List.length_range]
theorem tlD_succ (l : List It) (n : Nat) : tlD l (n + 1) = tlD l n ++ [.int ((tl l n : Nat) : Int)] := by unfold tlD; rw [List.range_succ, List.map_append]; rfl
theorem tlD_get {l : List It} {n k : Nat} (h : k < n) : (tlD l n)[k]? = some (.int ((tl l k : Nat) : Int)) := by unfold tlD; rw [List.getElem?_map, List.getElem?_range h]; rfl
theorem tlD_last (l : List It) (n : Nat) : (tlD l (n + 1)).getLast? = some (.int ((tl l n : Nat) : Int)) := by rw [tlD_succ, List.getLast?_append]; rfl
def fs_law_timesK : FS := fun io ds Q _ => io = none ∧ ∃ l : List It, ds = [.list (sc l)] ∧ ok [] l ∧ l.length ≤ 1000 ∧ Q (.ow (.list (tlD l (l.length + 1)))) none
def w_law_timesK : WS := wSeq (wPar [1, 2] (wsCons (wCall fs_law_starts [] (wCons (wVar 0) (wNil))) (wsCons (wLst (wCons (wC (.int 0)) (wNil))) (wsNil)))) (wSeq (wFor (wiA enumD (wCons (wVar 0) (wNil))) (wgTup 2 (wgCons (wgName 3) (wgCons (wgName 4) (wgNil)))) (wSeq (wSet 5 (wIf (wT (wOp oEq (wOp oIx (wVar 4) (wC (.int 0))) (wC (.str "bar")))) (wC (.int 1)) (wC (.int 0)))) (wSeq (wIfS (wT (wOp oEq (wOp oIx (wVar 4) (wC (.int 0))) (wC (.str "repeat")))) (wSet 5 (wOp oMul (wOp oIx (wVar 4) (wC (.int 2))) (wOp (oII (fun _ _ => True) (· - ·)) (wOp oIx (wVar 2) (wVar 3)) (wOp oIx (wVar 2) (wOp oIx (wVar 1) (wVar 3)))))) (wNext)) (wDrop (wMut 2 fAppend (wCons (wOp oAdd (wOp oIx (wVar 2) (wUn (fun a k => isI a fun i => k (.sh (.int (-i)))) (wC (.int 1)))) (wVar 5)) wNil)))))) (wRet (wVar 2)))
theorem fv_law_timesK : FnV fs_law_timesK 6 w_law_timesK := by
  rintro io ds Q X ⟨rfl, l, rfl, h, hl, q⟩
  show w_law_timesK [.sh (.list (sc l)), .no, .no, .no, .no, .no] _ _
  simp [w_law_timesK, ev_wFor, enumD_eq]
  refine ⟨rfl, l, rfl, h, hl, ?_⟩
  simp
  refine loop_inv (fun i Γ => ∃ a3 a4 a5 : Sl, Γ = [.sh (.list (sc l)), .ow (.dict (RpD l l.length)), .ow (.list (tlD l (i + 1))), a3, a4, a5]) ⟨_, _, _, rfl⟩ ?_ ?_
  · rintro i d Γ k hd ⟨a3, a4, a5, rfl⟩ hk
    obtain ⟨it, hit, rfl⟩ := enumF_it hd
    have hi := (List.getElem?_eq_some_iff.mp hit).1
    have hz : (tlD l (i + 1)).length < sizeLine := small (by rw [tlD_length]; omega)
    have il := fun k => ix_lastE (k := k) (tlD_last l i)
    have fin : ∀ (x : Int) (a3 a4 a5 : Sl), x = ((tl l (i + 1) : Nat) : Int) → k [.sh (.list (sc l)), .ow (.dict (RpD l l.length)), .ow (.list (tlD l (i + 1) ++ [.int x])), a3, a4, a5] := fun x a3 a4 a5 e => hk _ ⟨a3, a4, a5, by rw [tlD_succ l (i + 1), e]⟩
    cases it with
    | bar nm =>
      have e1 := tl_barS hit
      simp [It.d, sh_bar, sh_rep, eqv_str, br, bb, il]
      exact ⟨hz, fin _ _ _ _ (by rw [e1]; rfl)⟩
    | mark nm =>
      have e1 := tl_markS hit
      simp [It.d, sh_bar, sh_mark, sh_rep, eqv_str, mr, mb, il]
      exact ⟨hz, fin _ _ _ _ (by rw [e1])⟩
    | rep nm c =>
      have r : isRep l i = true := by unfold isRep; rw [hit]
      obtain ⟨s1, s2, n', c', e1, e2, e3⟩ := stt_rep h r
      rw [hit] at e1; cases e1
      have hc := ok_count h hit
      obtain ⟨g0, g1⟩ := tl_sg h r
      have t1 := tl_lt h i (by omega)
      have t2 := tl_mono (L := l) s2
      have i1 := fun k => ix_lnE (k := k) (tlD_get (l := l) (n := i + 1) (k := i) (by omega))
      have i2 := fun k => ix_lnE (k := k) (tlD_get (l := l) (n := i + 1) (k := stt l i) (by omega))
      have hm : CMulW c (((tl l i : Nat) : Int) - ((tl l (stt l i) : Nat) : Int)) := wide_mul (a := 32) (b := 31 * i + 1) (by omega) (by
        have : 2 ^ (31 * i + 1) = 2 ^ (31 * i) * 2 := Nat.pow_succ ..
        omega) (by decide) (by omega) (by omega)
      simp [It.d, sh_bar, sh_rep, eqv_str, rr, rb, il, i1, i2, ev_ixd, RpD_get hi r, hm]
      exact ⟨hz, fin _ _ _ _ (by rw [g1, e3]; rfl)⟩
  · rintro Γ ⟨a3, a4, a5, rfl⟩
    have el : (enumF 0 (sc l)).length = l.length := by rw [enumF_length, sc_length]
    rw [el]
    simp
    exact q
end SC

set_option Elab.async false
set_option linter.all false
set_option maxRecDepth 100000
namespace VL
open PySem L2 RZ
section
variable {Hi H : Hp}
theorem Items.zipT {K : Fg} {a b : Addr} {xs ys : List V} {ds es : List D} (h : SqT K Hi a xs) (r : Reps K Hi xs ds) (h2 : SqT K Hi b ys) (r2 : Reps K Hi ys es) : Items K Hi (ItzT K a b) (List.zipWith (fun x y => .tuple [x, y]) ds es) where
  stop := fun Hi' H i e k hi => ⟨xs, ys, (e.trans k).sqT h, (e.trans k).sqT h2, by
    have := r.length
    have := r2.length
    simp at hi
    omega⟩
  go := fun Hi' H i e k hi => by
    rw [List.length_zipWith] at hi
    obtain ⟨v, q1, _⟩ := r.get (List.getElem?_eq_getElem (show i < ds.length by omega))
    obtain ⟨w, q2, _⟩ := r2.get (List.getElem?_eq_getElem (show i < es.length by omega))
    exact ⟨xs, ys, v, w, (e.trans k).sqT h, (e.trans k).sqT h2, q1, q2⟩
  yld := fun Hi' H i x H' d e k hd y => by
    obtain ⟨T, x1, x2, rfl, hT, rfl, y1, y2⟩ := y
    rw [List.getElem?_zipWith] at hd
    cases q1 : ds[i]? with
    | none => rw [q1] at hd; cases hd
    | some d1 =>
      cases q2 : es[i]? with
      | none => rw [q1, q2] at hd; cases hd
      | some d2 =>
        rw [q1, q2] at hd
        cases hd
        obtain ⟨v, z1, z2⟩ := r.get q1
        obtain ⟨w, z3, z4⟩ := r2.get q2
        have := y1 xs ((e.trans k).sqT h)
        rw [z1] at this; cases this
        have := y2 ys ((e.trans k).sqT h2)
        rw [z3] at this; cases this
        exact yld_tup k hT (.cons (z2.mono e) (.one (z4.mono e)))
end
def wiZA (wa : WA) : WI := fun Γ Q X => wa Γ (fun rs Γ1 => frAll rs Γ1 fun ds Γ2 => match ds with
  | [.list l, .list m] => Q (List.zipWith (fun x y => .tuple [x, y]) l m) Γ2
  | [.tuple l, .tuple m] => Q (List.zipWith (fun x y => .tuple [x, y]) l m) Γ2
  | _ => False) X
section
variable {G : Gb} {W : WX}
theorem simi_zipA {t : TA} {w : WA} (h : SimA G W t w) : SimI G W (iZipA G.K t) (wiZA w) := by
  intro C Hi σ H Γ R Qd Xd c hw hR hX
  refine h C Hi σ H Γ _ _ Xd c hw (fun vs rs H1 Hi1 Γ1 e1 c1 h1 q1 => ?_) hX
  obtain ⟨ds, Hi2, Γ2, e2, c2, rp, q2⟩ := h1.share (Ext.refl _) c1 q1
  split at q2
  · rename_i l m
    cases rp with
    | cons r1 rp =>
      cases rp with
      | cons r2 rp =>
        cases rp
        cases r1 with
        | lst s1 p1 =>
          cases r2 with
          | lst s2 p2 => exact ⟨_, _, _, _, rfl, .inl ⟨SqL.of (c2.imm _ _ s1), SqL.of (c2.imm _ _ s2), hR _ _ H1 Hi2 Γ2 (e1.trans e2) c2 (Items.zip (SqL.of s1) p1 (SqL.of s2) p2) q2⟩⟩
  · rename_i l m
    cases rp with
    | cons r1 rp =>
      cases rp with
      | cons r2 rp =>
        cases rp
        cases r1 with
        | tup s1 p1 =>
          cases r2 with
          | tup s2 p2 => exact ⟨_, _, _, _, rfl, .inr ⟨SqT.of (c2.imm _ _ s1), SqT.of (c2.imm _ _ s2), hR _ _ H1 Hi2 Γ2 (e1.trans e2) c2 (Items.zipT (SqT.of s1) p1 (SqT.of s2) p2) q2⟩⟩
  · exact q2.elim
end
section
variable {X : Cx} {G : Gb} {W : WX} {a b : Expr} {t : TA} {w : WA} {p pos p2 : Pos}
theorem di_zipA {kk : Nat} {elts : List Expr} (hK : X.K = G.K) (hm : X.mg "zip" = none) (h : DA X G W [a, b] t w) (hg : Gl X "zip" := by rfl) (hs : starEach [a, b] X.env = (false, eval a X.env) :: starEach [b] X.env := by rfl) (hpl : (backTo pos (starEach [b] X.env)).any (·.1) = false := by rfl) :
    DI X G W (.Tuple elts kk p2) (.Call (.Name "zip" p) [a, b] [] pos) (iZipA G.K t) (wiZA w) := ⟨by rw [← hK]; exact pi_zipA hg hm h.pe hs hpl, simi_zipA h.sim⟩
end
@[simp ↓] theorem ev_wiZA (wa : WA) (Γ : Ev) (Q : List PyData → Ev → Prop) (X : XW) : wiZA wa Γ Q X = (wa Γ (fun rs Γ1 => frAll rs Γ1 fun ds Γ2 => match ds with
  | [.list l, .list m] => Q (List.zipWith (fun x y => .tuple [x, y]) l m) Γ2
  | [.tuple l, .tuple m] => Q (List.zipWith (fun x y => .tuple [x, y]) l m) Γ2
  | _ => False) X) := rfl
end VL

set_option Elab.async false
set_option linter.all false
set_option maxRecDepth 100000
namespace SC
open PySem L2 VL
def atomD : D → Prop
  | .int _ => True
  | .bool _ => True
  | .str s => PyData.strOk s = true
  | .none => True
  | _ => False
def SameT : Nat → D → Prop
  | 0, _ => False
  | n + 1, a => atomD a ∨ ∃ xs : List D, (a = .list xs ∨ a = .tuple xs) ∧ xs.length ≤ 100000 ∧ ∀ x ∈ xs, SameT n x
def fsRec_law_same (n : Nat) : FS := fun io ds Q _ => io = none ∧ ∃ a, ds = [a, a] ∧ SameT n a ∧ Q (.sh (.bool true)) none
theorem lRec_law_same (n : Nat) : FnL (fsRec_law_same n) 2 := by
  intro io ds Q X h
  obtain ⟨rfl, a, rfl, _⟩ := h
  rfl
theorem no_lift {G : Gb} {vs : List V} {H : Hp} {Q : VK} {E : XK} (h : lift G (fsRec_law_same 0) vs H Q E) : False := by
  obtain ⟨io, ds, Hi, Qd, Xd, pre, post, fp, _, _, _, _, _, ⟨_, a, _, z, _⟩, _⟩ := h
  exact z
def w_law_same (fsr : FS) : WS := wSeq (wIfS (wT (wIsi2 "list" "tuple" (wVar 1))) (wSeq (wIfS (wOr (wNot (wT (wIsi2 "list" "tuple" (wVar 0)))) (wT (wOp oNe (wIsi "list" (wVar 0)) (wIsi "list" (wVar 1))))) (wRet (wC (.bool false))) (wNext)) (wRet (wAndV (wOp oEq (wCB (o1 oLen) (wCons (wVar 0) (wNil))) (wCB (o1 oLen) (wCons (wVar 1) (wNil)))) (wCB (o1 oAll) (wCons (wLc [2, 3] (wiZA (wCons (wVar 0) (wCons (wVar 1) (wNil)))) (wgTup 2 (wgCons (wgName 2) (wgCons (wgName 3) (wgNil)))) (wYes) (wCall fsr [] (wCons (wVar 2) (wCons (wVar 3) (wNil))))) (wNil)))))) (wNext)) (wRet (wAndV (wOp oEq (wIsi "bool" (wVar 0)) (wIsi "bool" (wVar 1))) (wOp oEq (wVar 0) (wVar 1))))
theorem fvRec_law_same (n : Nat) : FnV (fsRec_law_same (n + 1)) 4 (w_law_same (fsRec_law_same n)) := by
  rintro io ds Q X ⟨rfl, a, rfl, ha, q⟩
  show w_law_same (fsRec_law_same n) [.sh a, .sh a, .no, .no] _ _
  have sb : ∀ b : Bool, SeqAt.shaped (.bool b) = true := fun b => by cases b <;> decide +kernel
  have eb : ∀ b : Bool, PyData.eqv (.bool b) (.bool b) = true := fun b => by cases b <;> decide +kernel
  have sn : SeqAt.shaped .none = true := by decide +kernel
  have en : PyData.eqv .none .none = true := by decide +kernel
  have t1 : isT "int" "list" = false ∧ isT "int" "tuple" = false ∧ isT "bool" "list" = false ∧ isT "bool" "tuple" = false ∧ isT "str" "list" = false ∧ isT "str" "tuple" = false ∧ isT "NoneType" "list" = false ∧ isT "NoneType" "tuple" = false := by decide +kernel
  obtain ⟨t1, t2, t3, t4, t5, t6, t7, t8⟩ := t1
  rcases ha with ha | ⟨xs, ha, hl, hx⟩
  · cases a with
    | int i =>
      simp [w_law_same, t1, t2, sb, eb, shaped_int, eqv_int]
      exact q
    | bool b =>
      simp [w_law_same, t3, t4, sb, eb]
      exact q
    | str s =>
      have hs : SeqAt.shaped (.str s) = true := shaped_str ha
      simp [w_law_same, t5, t6, sb, eb, hs, eqv_str]
      exact q
    | none =>
      simp [w_law_same, t7, t8, sb, eb, sn, en]
      exact q
    | _ => exact ha.elim
  · have ez : List.zipWith (fun x y => PyData.tuple [x, y]) xs xs = xs.map fun x => PyData.tuple [x, x] := by
      clear hl hx
      induction xs with
      | nil => rfl
      | cons x xs ih => simp [ih]
    rcases ha with rfl | rfl
    all_goals
      simp [w_law_same, sb, eb, shaped_int, eqv_int, ev_wLc, okW, wipeE, ez]
      refine lcm_map xs (fun x => .tuple [x, x]) (fun _ => .bool true) (by omega) (fun x acc k hm hz hk => ?_) ?_
      · simp [lcT, wipeE]
        refine ⟨rfl, x, rfl, hx x hm, ?_⟩
        simp
        exact ⟨hz, hk⟩
      · simp [restE]
        refine ⟨xs.map fun _ => true, by rw [List.map_map]; rfl, ?_⟩
        have : (xs.map fun _ => true).all id = true := List.all_eq_true.mpr fun b hb => by
          obtain ⟨_, _, rfl⟩ := List.mem_map.mp hb
          rfl
        rw [this]
        exact q
end SC

set_option Elab.async false
set_option linter.all false
set_option maxRecDepth 100000
namespace SC
open PySem L2 VL
theorem same_st (p : Nat) (a : Act) (ha : a.length ≤ 1000) : SameT 4 (stD p a) := by
  refine .inr ⟨_, .inr rfl, by simp, fun x hx => ?_⟩
  simp only [List.mem_cons, List.not_mem_nil, or_false] at hx
  rcases hx with rfl | rfl
  · exact .inl True.intro
  · refine .inr ⟨_, .inl rfl, by rw [aD_length]; omega, fun y hy => ?_⟩
    obtain ⟨q, _, rfl⟩ := List.mem_map.mp hy
    exact .inr ⟨_, .inr rfl, by simp, fun z hz => by
      simp only [List.mem_cons, List.not_mem_nil, or_false] at hz
      rcases hz with rfl | rfl <;> exact .inl True.intro⟩
end SC

set_option Elab.async false
set_option linter.all false
set_option maxRecDepth 100000
namespace SC
open PySem L2 VL

end SC

set_option Elab.async false
set_option linter.all false
set_option maxRecDepth 100000
namespace SC
open PySem L2 VL
end SC

set_option Elab.async false
set_option linter.all false
set_option maxRecDepth 100000
set_option pp.maxSteps 600
namespace SC
open PySem L2 VL

def BadE (l : List It) (e : D) : Prop := (∀ xs, e ≠ .tuple xs) ∨ ∃ x y, e = .tuple [x, y] ∧ repD l x = none
inductive BadSt (l : List It) : D → Prop
  | kind {v : D} : isT (tyN v) "tuple" = false → BadSt l v
  | len {xs : List D} : xs.length ≠ 2 → BadSt l (.tuple xs)
  | pos {x y : D} : isIntD x 0 (.int ((l.length : Nat) : Int)) = false → BadSt l (.tuple [x, y])
  | lst {x y : D} : isIntD x 0 (.int ((l.length : Nat) : Int)) = true → isT (tyN y) "list" = false → BadSt l (.tuple [x, y])
  | ent {p : Nat} {a : Act} {e : D} : p ≤ l.length → Vs l p p a → BadE l e → BadSt l (.tuple [.int (p : Int), .list (aD a ++ [e])])
def TmW (v : D) (n : Int) (A B : Prop) : Prop := (isIntD v 0 (.int n) = true ∧ A) ∨ (isIntD v 0 (.int n) = false ∧ B)
theorem TmW.x {v : D} {n : Int} {A B : Prop} (h : TmW v n A B) : (isIntD v 0 (.int n) = true → A) ∧ (isIntD v 0 (.int n) = false → B) := by
  rcases h with ⟨h, a⟩ | ⟨h, b⟩
  · exact ⟨fun _ => a, fun z => absurd (h.symm.trans z) (by decide)⟩
  · exact ⟨fun z => absurd (h.symm.trans z) (by decide), fun _ => b⟩
end SC

set_option Elab.async false
set_option linter.all false
set_option maxRecDepth 100000
namespace VL
open PySem PySem.Spec L2 PyProof.Rows
def dct (xs : List Str) : Nat → Nat
  | 0 => 0
  | i + 1 => if (xs.take i).any (· == xs.getD i Str.empty) = true then dct xs i else dct xs i + 1
section
variable {prog : Program} {w : World} {A : Around} {R : Result → Shared → Prop} {I : Addr} {fp wr : List Addr} {G : Array GenState → Array GenState → Prop} {n : Nat} {P : Nat → Value → Prop} {St : Nat → Shared → Prop}
end
section
variable {P : Program} {w : World} {A : Around} {E : Value → Shared → Prop} {s : Shared}
set_option maxHeartbeats 4000000 in
end
section
variable {X : Cx} {G : Gb} {W : WX}
def oLnS : Op1 := fun d k => isL d fun l => ∃ xs : List Str, l = xs.map .str ∧ xs.length ≤ 4000 ∧ k (.sh (.int ((dct xs xs.length : Nat) : Int)))
@[simp ↓] theorem ev_lnS (xs : List Str) (k : R → Prop) : oLnS (.list (xs.map .str)) k = (xs.length ≤ 4000 ∧ k (.sh (.int ((dct xs xs.length : Nat) : Int)))) := by
  refine propext ⟨?_, fun h => ⟨xs, rfl, h⟩⟩
  rintro ⟨ys, e, h⟩
  have inj : ∀ {a b : List Str}, a.map PyData.str = b.map PyData.str → a = b := by
    intro a
    induction a with
    | nil => intro b e; cases b with
      | nil => rfl
      | cons x b => simp at e
    | cons x a ih => intro b e; cases b with
      | nil => simp at e
      | cons y b =>
        simp only [List.map_cons, List.cons.injEq, PyData.str.injEq] at e
        rw [e.1, ih e.2]
  rw [inj e]
  exact h
end
end VL

set_option Elab.async false
set_option linter.all false
set_option maxRecDepth 100000
namespace SC
open PySem L2 VL
def bN : List It → List Str
  | [] => []
  | .bar n :: r => n :: bN r
  | .mark _ :: r => bN r
  | .rep _ _ :: r => bN r
end SC

set_option Elab.async false
set_option linter.all false
set_option maxRecDepth 100000
namespace VL
open PySem L2
section
variable {K : Fg} {H : Hp}
theorem RepKV.dropk : ∀ {kvs : List (Key × V)} {ps : List (D × D)} (k : Key), RepKV K H kvs ps → RepKV K H (dropK kvs k) (ddrop ps (kD k))
  | _, _, _, .nil => .nil
  | _, _, k, @RepKV.cons _ _ k0 v0 kvs d0 ps h r => by
    have ih := RepKV.dropk k r
    unfold dropK ddrop at ih ⊢
    rw [List.filter_cons, List.filter_cons]
    by_cases z : k0 = k
    · subst z
      simp [keyEq_kD]
      simpa using ih
    · simp [keyEq_kD, z]
      exact .cons h (by simpa using ih)
end
section
variable {X : Cx} {G : Gb} {W : WX}
def wDPop (i : Nat) (wk : WE) : WE := fun Γ Q X => owW i Γ fun d _ => isD d fun _ => wk Γ (fun rk Γ1 => rdW rk Γ1 fun kd => owW i Γ1 fun d f' => isD d fun ps => isK kd (match dget ps kd with
  | some v => Q (.sh v) (f' (.dict (ddrop ps kd)))
  | none => False)) X
theorem sim_dpop {ty : TE} {wk : WE} (i : Nat) (hk : SimE G W ty wk) : SimE G W (tDPop1 (tVar i) ty) (wDPop i wk) := by
  intro C Hi σ H Γ Q Qd Xd c hw hQ hX
  obtain ⟨d0, p, _, hp, ow0, hw, _⟩ := c.owned hw
  obtain ⟨l0, rfl, hw⟩ := isD_inv hw
  cases ow0 with
  | dct hl0 _ =>
    refine ⟨.ref p, hp, p, rfl, .inl ⟨_, .inl hl0⟩, hk C Hi σ H Γ _ _ Xd c hw (fun v1 r1 H1 Hi1 Γ1 e1 o1 q1 => ?_) hX⟩
    obtain ⟨Hi2, e2, c2, h2⟩ := o1.hold
    obtain ⟨kd, b1, q2⟩ := h2.read c2 q1
    obtain ⟨d, p', f', hp', ow, q3, put⟩ := c2.owned q2
    rw [hp] at hp'; cases hp'
    obtain ⟨ps, rfl, q3⟩ := isD_inv q3
    obtain ⟨⟨key, rfl⟩, q3⟩ := isK_inv q3
    cases ow with
    | dct hl rl =>
      split at q3
      · rename_i d' e
        obtain ⟨v, hv, rv⟩ := rl.get e
        exact ⟨_, key, v, hl, b1.key, hv, hQ v (.sh d') _ Hi2 _ (e1.trans e2) ⟨put _ _ (.dct upd_same (rl.dropk key)), rv⟩ q3⟩
      · exact q3.elim
theorem de_dpop {x : Str} {e : Expr} {te : TE} {we : WE} {apos pos p : Pos} (i : Nat) (he : DE X G W e te we) (hN : X.N[i]? = some x := by rfl) (hv : Vis X.env.scope x := by first | exact Or.inl rfl | exact Or.inr (Or.inl rfl) | exact Or.inr (Or.inr rfl)) (hd : (x == ("__debug__" : Str)) = false := by decide) (hcd : (x == ("__classdict__" : Str)) = false := by decide)
    (m1 : attributeBase (.Name x p) "pop" X.env (eval (.Name x p) X.env) = eval (.Name x p) X.env := by rfl)
    (m2 : ((backTo pos (starEach [e] X.env)).all (fun x => !x.1) && (backToKw pos (keywordEach [] X.env)).all (fun x => x.1.isSome) && decide (([e] : List Expr).length + ([] : List Keyword).length + (if ([] : List Keyword).isEmpty then 0 else 1) < 30)) = true := by rfl)
    (m3 : (apos.endLine == pos.line) = true := by rfl) (m4 : backTo pos (starEach [e] X.env) = [(false, eval e X.env)] := by rfl) : DE X G W (.Call (.Attribute (.Name x p) "pop" apos) [e] [] pos) (tDPop1 (tVar i) te) (wDPop i we) :=
  ⟨pe_dpop1 (pe_var hN hv hd hcd) he.pe ⟨m1, m2, m3, m4⟩, sim_dpop i he.sim⟩
@[simp ↓] theorem ev_wDPop (i : Nat) (wk : WE) (Γ : Ev) (Q : R → Ev → Prop) (X : XW) : wDPop i wk Γ Q X = owW i Γ fun d _ => isD d fun _ => wk Γ (fun rk Γ1 => rdW rk Γ1 fun kd => owW i Γ1 fun d f' => isD d fun ps => isK kd (match dget ps kd with
  | some v => Q (.sh v) (f' (.dict (ddrop ps kd)))
  | none => False)) X := rfl
end
end VL

set_option Elab.async false
set_option linter.all false
set_option maxRecDepth 100000
set_option pp.maxSteps 600
namespace L2
open PySem PySem.Spec PyProof.Rows
section
variable {X : Cx} {pins : List (Addr × Obj)} {σ : St} {H : Hp} {s : Shared} {a b : Addr} {kvs more : List (Key × V)} {A : Around} {E : Value → Shared → Prop}
end
section
variable {X : Cx} {o e : Expr} {apos cpos : Pos} {td ty : TE}
end
end L2
namespace VL
open PySem L2
def dupd (ps more : List (D × D)) : List (D × D) := more.foldl (fun acc p => dput acc p.1 p.2) ps
section
variable {K : Fg} {H : Hp}
theorem RepKV.upd (more : List (Key × V)) : ∀ (md : List (D × D)) (kvs : List (Key × V)) (ps : List (D × D)), RepKV K H more md → RepKV K H kvs ps → RepKV K H (mergeK kvs more) (dupd ps md) := by
  induction more with
  | nil =>
    intro md kvs ps h r
    cases h
    exact r
  | cons p more ih =>
    intro md kvs ps h r
    cases h with
    | cons h q =>
      rename_i k v d ps'
      exact ih ps' _ (dput ps (kD k) d) q (r.put h)
end
section
variable {X : Cx} {G : Gb} {W : WX}
def wDUpd (i : Nat) (wa : WE) : WE := fun Γ Q X => owW i Γ fun d _ => isD d fun _ => wa Γ (fun ra Γ1 => frW ra Γ1 fun da Γ2 => isD da fun more => owW i Γ2 fun d f' => isD d fun ps => ps.length + more.length ≤ sizeLine ∧ Q (.sh .none) (f' (.dict (dupd ps more)))) X
def wDUpdL (i : Nat) (wa : WE) : WE := fun Γ Q X => owW i Γ fun d _ => isD d fun _ => wa Γ (fun ra Γ1 => frW ra Γ1 fun da Γ2 => isL da fun l => owW i Γ2 fun d f' => isD d fun ps => ∃ kvs : List (Key × D), l = kvs.map (fun p => .tuple [kD p.1, p.2]) ∧ ps.length + l.length ≤ sizeLine ∧ Q (.sh .none) (f' (.dict (dmerge kvs ps)))) X
@[simp ↓] theorem ev_wDUpd (i : Nat) (wa : WE) (Γ : Ev) (Q : R → Ev → Prop) (X : XW) : wDUpd i wa Γ Q X = owW i Γ fun d _ => isD d fun _ => wa Γ (fun ra Γ1 => frW ra Γ1 fun da Γ2 => isD da fun more => owW i Γ2 fun d f' => isD d fun ps => ps.length + more.length ≤ sizeLine ∧ Q (.sh .none) (f' (.dict (dupd ps more)))) X := rfl
@[simp ↓] theorem ev_wDUpdL (i : Nat) (wa : WE) (Γ : Ev) (Q : R → Ev → Prop) (X : XW) : wDUpdL i wa Γ Q X = owW i Γ fun d _ => isD d fun _ => wa Γ (fun ra Γ1 => frW ra Γ1 fun da Γ2 => isL da fun l => owW i Γ2 fun d f' => isD d fun ps => ∃ kvs : List (Key × D), l = kvs.map (fun p => .tuple [kD p.1, p.2]) ∧ ps.length + l.length ≤ sizeLine ∧ Q (.sh .none) (f' (.dict (dmerge kvs ps)))) X := rfl
end
end VL

set_option Elab.async false
set_option linter.all false
set_option maxRecDepth 100000
set_option pp.maxSteps 600
namespace SC
open PySem L2 VL
structure Ns where
  f : Str → Option Str
  p : List Str
def nsS (z : Ns) : It → Ns
  | .mark n => ⟨z.f, z.p ++ [n]⟩
  | .bar x => ⟨fun m => if m ∈ z.p then some x else z.f m, []⟩
  | .rep _ _ => z
def ns (l : List It) : Ns := l.foldl nsS ⟨fun _ => none, []⟩
def isRp (m : Str) : It → Bool
  | .rep n _ => decide (n = m)
  | _ => false
def ud (l : List It) (m : Str) : Bool := l.any (isRp m)
def apr (is : List It) (x : Str) (c : Int) : List It := match is.getLast? with
  | some (.rep n c') => if n = x then is.dropLast ++ [.rep x ((c' + 1) * (c + 1) - 1)] else is ++ [.rep x c]
  | _ => is ++ [.rep x c]
def nfS (U : Str → Bool) (z : List It × Ns) (a : It) : List It × Ns := (match a with
  | .mark _ => z.1
  | .bar x => z.1 ++ (if z.2.p.any U then [.mark x] else []) ++ [.bar x]
  | .rep n c => apr z.1 ((z.2.f n).getD "") c, nsS z.2 a)
def nfA (U : Str → Bool) (l : List It) : List It × Ns := l.foldl (nfS U) ([], ⟨fun _ => none, []⟩)
def nf (l : List It) : List It := (nfA (ud l) l).1
def iNm : It → Str
  | .bar n => n
  | .mark n => n
  | .rep n _ => n
def Nmd (l : List It) : Prop := ∀ a ∈ l, nameB (iNm a) = true
theorem Nmd.nil : Nmd [] := fun _ h => nomatch h
theorem Nmd.snoc {l : List It} {a : It} (h : Nmd l) (ha : nameB (iNm a) = true) : Nmd (l ++ [a]) := fun b hb => by
  rcases List.mem_append.mp hb with hb | hb
  · exact h b hb
  · rw [List.mem_singleton.mp hb]; exact ha
theorem apr_other {l : List It} {a : It} (x : Str) (c : Int) (h : ∀ c', a ≠ .rep x c') : apr (l ++ [a]) x c = l ++ [a] ++ [.rep x c] := by
  unfold apr
  rw [List.getLast?_append]
  cases a with
  | rep n c' =>
    have : n ≠ x := fun e => h c' (by rw [e])
    simp [this]
  | bar n => rfl
  | mark n => rfl
theorem apr_same (l : List It) (x : Str) (c' c : Int) : apr (l ++ [.rep x c']) x c = l ++ [.rep x ((c' + 1) * (c + 1) - 1)] := by
  unfold apr
  simp
theorem Nmd.apr {is : List It} {x : Str} {c : Int} (h : Nmd is) (hx : nameB x = true) : Nmd (apr is x c) := by
  rcases List.eq_nil_or_concat is with rfl | ⟨l, a, rfl⟩
  · exact Nmd.snoc (l := []) h hx
  · by_cases hc : ∃ c', a = .rep x c'
    · obtain ⟨c', rfl⟩ := hc
      rw [List.concat_eq_append, apr_same]
      exact Nmd.snoc (fun b hb => h b (by simp [hb])) hx
    · rw [List.concat_eq_append, apr_other x c fun c' e => hc ⟨c', e⟩]
      rw [List.concat_eq_append] at h
      exact h.snoc hx
def Cs (l : List It) : Prop := ∀ n c, It.rep n c ∈ l → 1 ≤ c
theorem Cs.pre {a b : List It} (h : Cs (a ++ b)) : Cs a := fun n c hm => h n c (List.mem_append_left _ hm)
theorem Cs.nil : Cs [] := fun _ _ h => nomatch h
theorem Cs.snoc {l : List It} {a : It} (h : Cs l) (ha : ∀ n c, a = .rep n c → 1 ≤ c) : Cs (l ++ [a]) := fun n c hm => by
  rcases List.mem_append.mp hm with hm | hm
  · exact h n c hm
  · exact ha n c (List.mem_singleton.mp hm).symm
theorem Cs.apr {is : List It} {x : Str} {c : Int} (h : Cs is) (hc : 1 ≤ c) : Cs (apr is x c) := by
  rcases List.eq_nil_or_concat is with rfl | ⟨l, a, rfl⟩
  · exact Cs.snoc (l := []) h fun n d e => by cases e; exact hc
  · rw [List.concat_eq_append] at *
    by_cases he : ∃ c', a = .rep x c'
    · obtain ⟨c', rfl⟩ := he
      rw [apr_same]
      refine h.pre.snoc fun n d e => ?_
      cases e
      have h1 := h x c' (by simp)
      have := Int.mul_le_mul (a := 2) (b := 2) (c := c' + 1) (d := c + 1) (by omega) (by omega) (by decide) (by omega)
      omega
    · rw [apr_other x c fun c' e => he ⟨c', e⟩]
      exact h.snoc fun n d e => by cases e; exact hc
end SC

set_option Elab.async false
set_option linter.all false
set_option maxRecDepth 100000
set_option pp.maxSteps 600
namespace SC
open PySem L2 VL
end SC

set_option Elab.async false
set_option linter.all false
set_option maxRecDepth 100000
set_option pp.maxSteps 600
namespace VL
open PySem L2
def fsOr (F1 F2 : FS) : FS := fun io ds Q X => F1 io ds Q X ∨ F2 io ds Q X
end VL
namespace SC
open PySem L2 VL
end SC

set_option Elab.async false
set_option linter.all false
set_option maxRecDepth 100000
set_option pp.maxSteps 600
namespace VL
open PySem L2
section
variable {X : Cx} {G : Gb} {W : WX}
def wM1 (o : Op2) (wo we : WE) : WE := fun Γ Q X => wo Γ (fun ra Γ1 => rdW ra Γ1 fun a => isS a fun _ => we Γ1 (fun rb Γ2 => rdW ra Γ2 fun a => rdW rb Γ2 fun b => o a b fun r => Q r Γ2) X) X
end
section
variable {X : Cx} {G : Gb} {W : WX} {o e : Expr} {to te : TE} {wo we : WE} {apos pos : Pos}
def wFmt (w : WE) : WE := fun Γ Q X => w Γ (fun r Γ1 => rdW r Γ1 fun d => match d with
  | .str y => y.length ≤ sizeLine ∧ Q (.sh (.str y)) Γ1
  | .int i => i.natAbs.log2 < 1920 ∧ Q (.sh (.str (toString i))) Γ1
  | _ => False) X
def wJs : List WE → Str → Ev → (Str → Ev → Prop) → XW → Prop
  | [], acc, Γ, Q, _ => Q acc Γ
  | w :: ws, acc, Γ, Q, X => w Γ (fun r Γ1 => rdW r Γ1 fun d => isS d fun y => (acc ++ y).length ≤ sizeLine ∧ wJs ws (acc ++ y) Γ1 Q X) X
inductive DJ (X : Cx) (G : Gb) (W : WX) : List Expr → List TE → List WE → Prop where
  | nil : DJ X G W [] [] []
  | cons {e : Expr} {t : TE} {w : WE} {es : List Expr} {ts : List TE} {ws : List WE} (h : DE X G W e t w) (r : DJ X G W es ts ws) : DJ X G W (e :: es) (t :: ts) (w :: ws)
def wFs (ws : List WE) : WE := fun Γ Q X => wJs ws Str.empty Γ (fun y Γ1 => Q (.sh (.str y)) Γ1) X
@[simp ↓] theorem ev_wM1 (o : Op2) (wo we : WE) (Γ : Ev) (Q : R → Ev → Prop) (X : XW) : wM1 o wo we Γ Q X = wo Γ (fun ra Γ1 => rdW ra Γ1 fun a => isS a fun _ => we Γ1 (fun rb Γ2 => rdW ra Γ2 fun a => rdW rb Γ2 fun b => o a b fun r => Q r Γ2) X) X := rfl
@[simp ↓] theorem ev_wFmt (w : WE) (Γ : Ev) (Q : R → Ev → Prop) (X : XW) : wFmt w Γ Q X = w Γ (fun r Γ1 => rdW r Γ1 fun d => match d with
  | .str y => y.length ≤ sizeLine ∧ Q (.sh (.str y)) Γ1
  | .int i => i.natAbs.log2 < 1920 ∧ Q (.sh (.str (toString i))) Γ1
  | _ => False) X := rfl
@[simp ↓] theorem ev_wFs (ws : List WE) (Γ : Ev) (Q : R → Ev → Prop) (X : XW) : wFs ws Γ Q X = wJs ws Str.empty Γ (fun y Γ1 => Q (.sh (.str y)) Γ1) X := rfl
@[simp ↓] theorem ev_wJs0 (acc : Str) (Γ : Ev) (Q : Str → Ev → Prop) (X : XW) : wJs [] acc Γ Q X = Q acc Γ := rfl
@[simp ↓] theorem ev_wJs1 (w : WE) (ws : List WE) (acc : Str) (Γ : Ev) (Q : Str → Ev → Prop) (X : XW) : wJs (w :: ws) acc Γ Q X = w Γ (fun r Γ1 => rdW r Γ1 fun d => isS d fun y => (acc ++ y).length ≤ sizeLine ∧ wJs ws (acc ++ y) Γ1 Q X) X := rfl
end
end VL

set_option Elab.async false
set_option linter.all false
set_option maxRecDepth 100000
set_option pp.maxSteps 600
namespace VL
open PySem L2
def oNeD0 : Op2 := fun a b k => isD a fun ps => isD b fun qs => qs = [] ∧ k (.sh (.bool (!ps.isEmpty)))
def oEqD0 : Op2 := fun a b k => isD a fun ps => isD b fun qs => qs = [] ∧ k (.sh (.bool ps.isEmpty))
def oListD : Op1 := fun d k => isD d fun ps => k (.ow (.list (ps.map (·.1))))
section
variable {G : Gb}
end
section
variable {X : Cx} {G : Gb}
end
@[simp ↓] theorem ev_oNeD0 (ps : List (D × D)) (k : R → Prop) : oNeD0 (.dict ps) (.dict []) k = k (.sh (.bool (!ps.isEmpty))) := by simp [oNeD0, isD]
@[simp ↓] theorem ev_oEqD0 (ps : List (D × D)) (k : R → Prop) : oEqD0 (.dict ps) (.dict []) k = k (.sh (.bool ps.isEmpty)) := by simp [oEqD0, isD]
@[simp ↓] theorem ev_oListD (ps : List (D × D)) (k : R → Prop) : oListD (.dict ps) k = k (.ow (.list (ps.map (·.1)))) := rfl
end VL

set_option Elab.async false
set_option linter.all false
set_option maxRecDepth 100000
set_option pp.maxSteps 600
namespace L2
open PySem PySem.Spec PyProof.Rows
end L2
namespace VL
open PySem L2
section
variable {X : Cx} {G : Gb} {W : WX} {a b : Expr} {ta tb : TE} {wa wb : WE} {pos : Pos}
end
end VL

set_option Elab.async false
set_option linter.all false
set_option maxRecDepth 100000
set_option pp.maxSteps 600
namespace SC
open PySem L2 VL
def wordL : List Str := ["do", "re", "mi", "fa", "a", "ab", "abcdefgh", "b", "zz", "none", "z", "bar", "ok", "mark"]
theorem word_ok : ∀ x ∈ wordL, nameB x = true := by decide +kernel
structure RcI (l : List It) (ws : List (Str × Int)) (st : Int) (i : Nat) : Prop where
  h : ok [] l
  ln : l.length = i
  wm : ∀ x, x ∈ mk [] l ↔ x ∈ ws.map (·.1)
  wl : ws.length ≤ i
  wo : ∀ p ∈ ws, p.1 ∈ wordL ∧ 0 ≤ p.2 ∧ p.2 ≤ st
  s0 : 0 ≤ st
  s1 : st + 1 ≤ ((2 ^ (32 * i) : Nat) : Int)
  mN : ∀ x, It.mark x ∈ l → x ∈ wordL
  bN : ∀ x, It.bar x ∈ l → x ∈ wordL
  cN : ∀ x c, It.rep x c ∈ l → c ≤ 999999999
theorem RcI.start : RcI [] [] 0 0 := ⟨trivial, rfl, fun x => by simp [SC.mk], Nat.le_refl _, fun p hp => by simp at hp, Int.le_refl _, by decide, fun _ h => by simp at h, fun _ h => by simp at h, fun _ _ h => by simp at h⟩
theorem two32 (i : Nat) : ((2 ^ (32 * (i + 1)) : Nat) : Int) = 4294967296 * ((2 ^ (32 * i) : Nat) : Int) := by
  rw [show 32 * (i + 1) = 32 + 32 * i by omega, Nat.pow_add, Int.natCast_mul]
  rfl
theorem RcI.bar {l : List It} {ws : List (Str × Int)} {st : Int} {i : Nat} (I : RcI l ws st i) {x : Str} (hx : x ∈ wordL) : RcI (l ++ [.bar x]) ws (st + 1) (i + 1) := by
  have p1 : (1 : Int) ≤ ((2 ^ (32 * i) : Nat) : Int) := by have := I.s0; have := I.s1; omega
  refine ⟨(ok_app _ _ _).mpr ⟨I.h, word_ok x hx, trivial⟩, by rw [List.length_append, I.ln]; rfl, fun y => by rw [mk_app]; exact I.wm y, by have := I.wl; omega, fun p hp => ?_, by have := I.s0; omega, by rw [two32]; have := I.s1; omega, fun y hy => ?_, fun y hy => ?_, fun y c hy => ?_⟩
  · obtain ⟨a, b, c⟩ := I.wo p hp
    exact ⟨a, b, by omega⟩
  · rcases List.mem_append.mp hy with z | z
    · exact I.mN y z
    · simp at z
  · rcases List.mem_append.mp hy with z | z
    · exact I.bN y z
    · have : y = x := by simpa using z
      rw [this]; exact hx
  · rcases List.mem_append.mp hy with z | z
    · exact I.cN y c z
    · simp at z
theorem RcI.mark {l : List It} {ws : List (Str × Int)} {st : Int} {i : Nat} (I : RcI l ws st i) {x : Str} (hx : x ∈ wordL) (hn : x ∉ ws.map (·.1)) : RcI (l ++ [.mark x]) (ws ++ [(x, st + 1)]) (st + 1) (i + 1) := by
  have p1 : (1 : Int) ≤ ((2 ^ (32 * i) : Nat) : Int) := by have := I.s0; have := I.s1; omega
  refine ⟨(ok_app _ _ _).mpr ⟨I.h, word_ok x hx, fun z => hn ((I.wm x).mp z), trivial⟩, by rw [List.length_append, I.ln]; rfl, fun y => ?_, by have := I.wl; simp; omega, fun p hp => ?_, by have := I.s0; omega, by rw [two32]; have := I.s1; omega, fun y hy => ?_, fun y hy => ?_, fun y c hy => ?_⟩
  · rw [mk_app]
    show y ∈ x :: SC.mk [] l ↔ _
    rw [List.mem_cons, I.wm y, List.map_append, List.mem_append]
    simp [or_comm]
  · rcases List.mem_append.mp hp with z | z
    · obtain ⟨a, b, c⟩ := I.wo p z
      exact ⟨a, b, by omega⟩
    · have : p = (x, st + 1) := by simpa using z
      subst this
      exact ⟨hx, by have := I.s0; show 0 ≤ st + 1; omega, Int.le_refl _⟩
  · rcases List.mem_append.mp hy with z | z
    · exact I.mN y z
    · have : y = x := by simpa using z
      rw [this]; exact hx
  · rcases List.mem_append.mp hy with z | z
    · exact I.bN y z
    · simp at z
  · rcases List.mem_append.mp hy with z | z
    · exact I.cN y c z
    · simp at z
theorem RcI.rep {l : List It} {ws : List (Str × Int)} {st : Int} {i : Nat} (I : RcI l ws st i) {x : Str} {r c : Int} (hx : (x, r) ∈ ws) (c1 : 1 ≤ c) (c2 : c ≤ 999999999) : RcI (l ++ [.rep x c]) ws (st + 1 + c * (st + 1 - r + 1)) (i + 1) := by
  obtain ⟨a, b, e⟩ := I.wo _ hx
  have s0 := I.s0
  have s1 := I.s1
  have m0 : 0 ≤ c * (st + 1 - r + 1) := Int.mul_nonneg (by omega) (by omega)
  have m1 : c * (st + 1 - r + 1) ≤ 999999999 * (st + 2) := Int.mul_le_mul c2 (by omega) (by omega) (by decide)
  refine ⟨(ok_app _ _ _).mpr ⟨I.h, word_ok x a, (I.wm x).mpr (List.mem_map.mpr ⟨_, hx, rfl⟩), ⟨c1, by omega⟩, trivial⟩, by rw [List.length_append, I.ln]; rfl, fun y => by rw [mk_app]; exact I.wm y, by have := I.wl; omega, fun p hp => ?_, by omega, by rw [two32]; omega, fun y hy => ?_, fun y hy => ?_, fun y d hy => ?_⟩
  · obtain ⟨a, b, c⟩ := I.wo p hp
    exact ⟨a, b, by omega⟩
  · rcases List.mem_append.mp hy with z | z
    · exact I.mN y z
    · simp at z
  · rcases List.mem_append.mp hy with z | z
    · exact I.bN y z
    · simp at z
  · rcases List.mem_append.mp hy with z | z
    · exact I.cN y d z
    · have : y = x ∧ d = c := by simpa using z
      omega
end SC

set_option Elab.async false
set_option linter.all false
set_option maxRecDepth 100000
set_option pp.maxSteps 600
set_option maxHeartbeats 400000
namespace VL
open PySem L2
theorem fnv_or {F1 F2 : FS} {n : Nat} {w : WS} (h1 : FnV F1 n w) (h2 : FnV F2 n w) : FnV (fsOr F1 F2) n w := fun io ds Q X h => h.elim (h1 io ds Q X) (h2 io ds Q X)
end VL
namespace SC
open PySem L2 VL
def Pr (x : Str) : List It → Int
  | [] => 1
  | .rep y c :: l => (if y = x then c + 1 else 1) * Pr x l
  | _ :: l => Pr x l
theorem Pr_app (x : Str) (b : List It) : ∀ a : List It, Pr x (a ++ b) = Pr x a * Pr x b
  | [] => by simp [Pr]
  | .bar _ :: a => by simp only [List.cons_append, Pr, Pr_app x b a]
  | .mark _ :: a => by simp only [List.cons_append, Pr, Pr_app x b a]
  | .rep y c :: a => by simp only [List.cons_append, Pr, Pr_app x b a, Int.mul_assoc]
structure RcJ (cap : Int) (l : List It) (ws : List (Str × Int)) (st : Int) (i : Nat) : Prop where
  I : RcI l ws st i
  cp : st ≤ cap + i
  nd : (ws.map (·.1)).Nodup
  pr : ∀ p ∈ ws, Pr p.1 l ≤ st - p.2 + 1
  pn : ∀ x, x ∉ ws.map (·.1) → Pr x l = 1
  c9 : ∀ x c, It.rep x c ∈ l → c ≤ 9
theorem RcJ.start {cap : Int} (h : 0 ≤ cap) : RcJ cap [] [] 0 0 := ⟨RcI.start, by omega, List.nodup_nil, fun p hp => by simp at hp, fun x _ => rfl, fun _ _ h => by simp at h⟩
theorem RcJ.bar {cap : Int} {l : List It} {ws : List (Str × Int)} {st : Int} {i : Nat} (J : RcJ cap l ws st i) {x : Str} (hx : x ∈ wordL) : RcJ cap (l ++ [.bar x]) ws (st + 1) (i + 1) := by
  refine ⟨J.I.bar hx, by have := J.cp; omega, J.nd, fun p hp => ?_, fun y hy => ?_, fun y c hy => ?_⟩
  · rw [Pr_app]; have := J.pr p hp; simp only [Pr, Int.mul_one]; omega
  · rw [Pr_app, J.pn y hy]; rfl
  · rcases List.mem_append.mp hy with z | z
    · exact J.c9 y c z
    · simp at z
theorem RcJ.mark {cap : Int} {l : List It} {ws : List (Str × Int)} {st : Int} {i : Nat} (J : RcJ cap l ws st i) {x : Str} (hx : x ∈ wordL) (hn : x ∉ ws.map (·.1)) : RcJ cap (l ++ [.mark x]) (ws ++ [(x, st + 1)]) (st + 1) (i + 1) := by
  refine ⟨J.I.mark hx hn, by have := J.cp; omega, ?_, fun p hp => ?_, fun y hy => ?_, fun y c hy => ?_⟩
  · rw [List.map_append, List.nodup_append]
    refine ⟨J.nd, by simp, fun a ha b hb e => ?_⟩
    have : b = x := by simpa using hb
    subst this
    subst e
    exact hn ha
  · rw [Pr_app]
    simp only [Pr, Int.mul_one]
    rcases List.mem_append.mp hp with z | z
    · have := J.pr p z; omega
    · have : p = (x, st + 1) := by simpa using z
      subst this
      rw [J.pn x hn]
      show (1 : Int) ≤ st + 1 - (st + 1) + 1
      omega
  · rw [Pr_app]
    rw [J.pn y (fun z => hy (by rw [List.map_append]; exact List.mem_append_left _ z))]
    rfl
  · rcases List.mem_append.mp hy with z | z
    · exact J.c9 y c z
    · simp at z
theorem key_one {ws : List (Str × Int)} (h : (ws.map (·.1)).Nodup) {x : Str} {r r' : Int} (h1 : (x, r) ∈ ws) (h2 : (x, r') ∈ ws) : r = r' := by
  induction ws with
  | nil => cases h1
  | cons p ws ih =>
    rw [List.map_cons, List.nodup_cons] at h
    rcases List.mem_cons.mp h1 with e1 | e1
    · rcases List.mem_cons.mp h2 with e2 | e2
      · rw [← e1] at e2; exact (Prod.mk.inj e2).2.symm
      · exact absurd (List.mem_map.mpr ⟨_, e2, by rw [← e1]⟩) h.1
    · rcases List.mem_cons.mp h2 with e2 | e2
      · exact absurd (List.mem_map.mpr ⟨_, e1, by rw [← e2]⟩) h.1
      · exact ih h.2 e1 e2
theorem RcJ.rep {cap : Int} {l : List It} {ws : List (Str × Int)} {st : Int} {i : Nat} (J : RcJ cap l ws st i) {x : Str} {r c : Int} (hx : (x, r) ∈ ws) (c1 : 1 ≤ c) (c2 : c ≤ 9) (hcap : st + 1 + c * (st + 1 - r + 1) ≤ cap) : RcJ cap (l ++ [.rep x c]) ws (st + 1 + c * (st + 1 - r + 1)) (i + 1) := by
  obtain ⟨a, b, e⟩ := J.I.wo _ hx
  have m0 : 0 ≤ c * (st + 1 - r + 1) := Int.mul_nonneg (by omega) (by omega)
  refine ⟨J.I.rep hx c1 (by omega), by omega, J.nd, fun p hp => ?_, fun y hy => ?_, fun y d hy => ?_⟩
  · rw [Pr_app]
    have h1 := J.pr p hp
    by_cases h : x = p.1
    · have hr : r = p.2 := key_one J.nd hx (by rw [h]; exact hp)
      simp only [Pr, h, if_true, Int.mul_one]
      have h2 : Pr p.1 l * (c + 1) ≤ (st - p.2 + 1) * (c + 1) := Int.mul_le_mul_of_nonneg_right h1 (by omega)
      have h3 : (st - p.2 + 1) * (c + 1) = c * (st + 1 - p.2 + 1) - c + (st - p.2 + 1) := by
        rw [Int.mul_add, Int.mul_one, Int.mul_comm (st - p.2 + 1) c]
        have : c * (st + 1 - p.2 + 1) = c * (st - p.2 + 1) + c := by
          rw [show st + 1 - p.2 + 1 = (st - p.2 + 1) + 1 by omega, Int.mul_add, Int.mul_one]
        omega
      rw [hr]
      omega
    · simp only [Pr, h, if_false, Int.mul_one]
      omega
  · rw [Pr_app, J.pn y hy]
    have : x ≠ y := fun z => hy (List.mem_map.mpr ⟨_, hx, z⟩)
    simp [Pr, this]
  · rcases List.mem_append.mp hy with z | z
    · exact J.c9 y d z
    · have : y = x ∧ d = c := by simpa using z
      omega
end SC

set_option Elab.async false
set_option linter.all false
set_option maxRecDepth 100000
set_option pp.maxSteps 600
namespace VL
open PySem L2
@[simp ↓] theorem newW_sh (d : D) (k : D → Prop) : newW (.sh d) k = False := rfl
@[simp ↓] theorem newW_vr (i : Nat) (k : D → Prop) : newW (.vr i) k = False := rfl
end VL
namespace SC
open PySem L2 VL
def nwR (f : Bool) (d : D) : VL.R := if f then .op 15 d else .sh d
theorem nwR_t (d : D) : nwR true d = .op 15 d := rfl
theorem nwR_f (d : D) : nwR false d = .sh d := rfl
def fs_counter_hereB (f : Bool) : FS := fun io ds Q _ => io = none ∧ ∃ (p : Nat) (a : Act), ds = [stD p a] ∧ Q (nwR f (.tuple [.int (cH p a).1, .list (aD (cH p a).2)])) none
def w_counter_hereD : WS := wSeq (wAsg (wVar 0) (wgTup 2 (wgCons (wgName 1) (wgCons (wgName 2) (wgNil))))) (wSeq (wIfS (wAnd (wT (wOp oNe (wVar 2) (wLst (wNil)))) (wT (wOp oEq (wOp oIx (wOp oIx (wVar 2) (wC (.int 0))) (wC (.int 0))) (wVar 1)))) (wRet (wTupD (wOp oIx (wOp oIx (wVar 2) (wC (.int 0))) (wC (.int 1))) (wSlL (wVar 2) (wPart (wC (.int 1))) (wNoP)))) (wNext)) (wRet (wTupD (wC (.int 0)) (wCB (o1 oList) (wCons (wVar 2) (wNil))))))
theorem fv_counter_hereB (f : Bool) : FnV (fs_counter_hereB f) 3 w_counter_hereD := by
  rintro io ds Q X ⟨rfl, p, a, rfl, q⟩
  show w_counter_hereD [.sh (stD p a), .no, .no] _ _
  have s0 := shA a
  cases a with
  | nil =>
    simp only [aD, List.map_nil] at s0
    simp [w_counter_hereD, stD, aD, s0, PyData.eqv, PyData.eqvAll]
    cases f with
    | true => first | exact .inr (.inr q) | exact .inr q
    | false => first | exact .inl (.inl q) | exact .inl q
  | cons x a =>
    have e0 := eqvA0 (x :: a)
    simp only [aD, List.map_cons, entD] at s0 e0
    simp [w_counter_hereD, stD, aD, s0, shNil, e0, entD, shaped_int, eqv_int]
    simp only [cH] at q
    by_cases z : x.1 = p
    · rw [if_pos z] at q
      rw [if_pos (by omega)]
      rw [cut_tail]
      cases f with
      | true => first | exact .inr (.inr q) | exact .inr q
      | false => first | exact .inl (.inl q) | exact .inl q
    · rw [if_neg z] at q
      rw [if_neg (by omega)]
      cases f with
      | true => first | exact .inr (.inr q) | exact .inr q
      | false => first | exact .inl (.inl q) | exact .inl q
def fs_counter_hereD : FS := fsOr (fs_counter_hereB false) (fs_counter_hereB true)
theorem fv_counter_hereD : FnV fs_counter_hereD 3 w_counter_hereD := fnv_or (fv_counter_hereB false) (fv_counter_hereB true)
def nxD (l : List It) (p : Nat) (a : Act) : D := .tuple [.str (nxt l p a).1, stD (nxt l p a).2.1 (nxt l p a).2.2]
def fs_step_fromB (f : Bool) : FS := fun io ds Q _ => io = none ∧ ∃ (l : List It) (sps : List (D × D)) (p : Nat) (a : Act), ds = [.list (sc l), .dict sps, stD p a] ∧ ok [] l ∧ SS sps l ∧ p < l.length ∧ a.length ≤ 1000 ∧
  Q (nwR f (nxD l p a)) none
def w_step_fromD : WS := wSeq (wAsg (wVar 2) (wgTup 2 (wgCons (wgName 3) (wgCons (wgName 4) (wgNil))))) (wSeq (wSet 5 (wOp oIx (wVar 0) (wVar 3))) (wSeq (wIfS (wT (wOp oNe (wOp oIx (wVar 5) (wC (.int 0))) (wC (.str "repeat")))) (wRet (wTupD (wIf (wT (wOp oEq (wOp oIx (wVar 5) (wC (.int 0))) (wC (.str "bar")))) (wC (.str "play")) (wC (.str "pass"))) (wTupD (wOp oAdd (wVar 3) (wC (.int 1))) (wCB (o1 oList) (wCons (wVar 4) (wNil)))))) (wNext)) (wSeq (wAsg5 6 7 (wCall fs_counter_hereD [] (wCons (wVar 2) (wNil)))) (wSeq (wIfS (wT (wOp (oIB fun i j => decide (i < j)) (wVar 6) (wOp oIx (wVar 5) (wC (.int 2))))) (wRet (wTupD (wC (.str "jump")) (wTupD (wOp oIx (wVar 1) (wVar 3)) (wOp oAdd (wLst (wCons (wTup (wCons (wVar 3) (wCons (wOp oAdd (wVar 6) (wC (.int 1))) (wNil)))) (wNil))) (wVar 7))))) (wNext)) (wRet (wTupD (wC (.str "continue")) (wTupD (wOp oAdd (wVar 3) (wC (.int 1))) (wOwn (wVar 7)))))))))
theorem fv_step_fromB (f : Bool) : FnV (fs_step_fromB f) 8 w_step_fromD := by
  rintro io ds Q X ⟨rfl, l, sps, p, a, rfl, h, hSS, hp, ha, q⟩
  show w_step_fromD [.sh (.list (sc l)), .sh (.dict sps), .sh (stD p a), .no, .no, .no, .no, .no] _ _
  have ei := List.getElem?_eq_getElem hp
  have ix := fun k => ix_lnE (k := k) (sc_get ei)
  unfold nxD nxt at q
  cases c : l[p] with
  | bar m =>
    rw [c] at ei ix
    rw [ei] at q
    simp [w_step_fromD, stD, ix, It.d, sh_bar, sh_rep, eqv_str, br, bb]
    cases f with
    | true => first | exact .inr (.inr q) | exact .inr q
    | false => first | exact .inl (.inl q) | exact .inl q
  | mark m =>
    rw [c] at ei ix
    rw [ei] at q
    simp [w_step_fromD, stD, ix, It.d, sh_bar, sh_mark, sh_rep, eqv_str, mr, mb]
    cases f with
    | true => first | exact .inr (.inr q) | exact .inr q
    | false => first | exact .inl (.inl q) | exact .inl q
  | rep m cc =>
    rw [c] at ei ix
    rw [ei] at q
    obtain ⟨j, j1, j2, j3⟩ := hSS p m cc ei
    have hst := stt_eq h ei j2
    have hcl := cH_len p a
    simp [w_step_fromD, stD, ix, It.d, sh_rep, eqv_str, rr]
    by_cases z : (cH p a).1 < cc
    · dsimp only at q
      rw [if_pos z] at q
      rw [hst] at q
      cases f with
      | true =>
        refine Or.inr ⟨rfl, p, a, rfl, ?_⟩
        simp [nwR_t]
        rw [if_pos z]
        simp [ev_ixd, j3]
        exact .inr ⟨smallE (by rw [aD_length]; omega), q⟩
      | false =>
        refine Or.inl ⟨rfl, p, a, rfl, ?_⟩
        simp [nwR_f]
        rw [if_pos z]
        simp [ev_ixd, j3]
        exact .inl (.inl ⟨smallE (by rw [aD_length]; omega), q⟩)
    · dsimp only at q
      rw [if_neg z] at q
      cases f with
      | true =>
        refine Or.inr ⟨rfl, p, a, rfl, ?_⟩
        simp [nwR_t]
        rw [if_neg z]
        first | exact .inr (.inr q) | exact .inr q
      | false =>
        refine Or.inl ⟨rfl, p, a, rfl, ?_⟩
        simp [nwR_f]
        rw [if_neg z]
        exact q
def fs_step_fromD : FS := fsOr (fs_step_fromB false) (fs_step_fromB true)
theorem fv_step_fromD : FnV fs_step_fromD 8 w_step_fromD := fnv_or (fv_step_fromB false) (fv_step_fromB true)
def nxR (f : Bool) (l : List It) (p : Nat) (a : Act) : VL.R := if p = l.length then .sh .none else nwR f (nxD l p a)
def fs_next_stepB (f : Bool) : FS := fun io ds Q _ => io = none ∧ ∃ (l : List It) (p : Nat) (a : Act), ds = [.list (sc l), stD p a] ∧ ok [] l ∧ l.length ≤ 900 ∧ p ≤ l.length ∧ Vs l p p a ∧ Q (nxR f l p a) none
def w_next_stepD : WS := wSeq (wDrop (wCall fs_require_score [] (wCons (wVar 0) (wNil)))) (wSeq (wDrop (wCall fs_require_state [] (wCons (wVar 0) (wCons (wVar 1) (wNil))))) (wRet (wIf (wT (wOp oEq (wOp oIx (wVar 1) (wC (.int 0))) (wCB (o1 oLen) (wCons (wVar 0) (wNil))))) (wC .none) (wCall fs_step_fromD [] (wCons (wVar 0) (wCons (wCall fs_segment_starts [] (wCons (wVar 0) (wNil))) (wCons (wVar 1) (wNil))))))))
theorem fv_next_stepB (f : Bool) : FnV (fs_next_stepB f) 2 w_next_stepD := by
  rintro io ds Q X ⟨rfl, l, p, a, rfl, h, hl, hp, v, q⟩
  show w_next_stepD [.sh (.list (sc l)), .sh (stD p a)] _ _
  have hal := Vs_len v hp
  simp [w_next_stepD]
  refine ⟨rfl, l, rfl, h, by omega, ?_⟩
  simp
  refine ⟨rfl, l, p, a, rfl, h, by omega, hp, v, ?_⟩
  simp [stD, shaped_int, eqv_int, sc_length]
  unfold nxR at q
  by_cases z : p = l.length
  · rw [if_pos (by omega)]
    rw [if_pos z] at q
    exact q
  · rw [if_neg (by omega)]
    rw [if_neg z] at q
    refine ⟨rfl, l, rfl, h, by omega, fun sps hSS => ?_⟩
    simp
    cases f with
    | true =>
      refine Or.inr ⟨rfl, l, sps, p, a, rfl, h, hSS, by omega, by omega, ?_⟩
      rw [nwR_t] at q
      simp [nwR_t]
      exact q
    | false =>
      refine Or.inl ⟨rfl, l, sps, p, a, rfl, h, hSS, by omega, by omega, ?_⟩
      rw [nwR_f] at q
      simp [nwR_f]
      exact q
def fs_next_stepD : FS := fsOr (fs_next_stepB false) (fs_next_stepB true)
theorem fv_next_stepD : FnV fs_next_stepD 2 w_next_stepD := fnv_or (fv_next_stepB false) (fv_next_stepB true)
def pvR (f : Bool) (l : List It) (p : Nat) (a : Act) : VL.R := match prv l p a with
  | none => .sh .none
  | some x => nwR f (stD x.1 x.2)
def fs_previous_stateB (f : Bool) : FS := fun io ds Q _ => io = none ∧ ∃ (l : List It) (p : Nat) (a : Act), ds = [.list (sc l), stD p a] ∧ ok [] l ∧ l.length ≤ 900 ∧ p ≤ l.length ∧ Vs l p p a ∧ Q (pvR f l p a) none
def w_previous_stateD : WS := wSeq (wDrop (wCall fs_require_score [] (wCons (wVar 0) (wNil)))) (wSeq (wDrop (wCall fs_require_state [] (wCons (wVar 0) (wCons (wVar 1) (wNil))))) (wSeq (wAsg (wVar 1) (wgTup 2 (wgCons (wgName 2) (wgCons (wgName 3) (wgNil))))) (wSeq (wIfS (wAnd (wT (wOp oNe (wVar 3) (wLst (wNil)))) (wT (wOp oEq (wOp oIx (wCall fs_segment_starts [] (wCons (wVar 0) (wNil))) (wOp oIx (wOp oIx (wVar 3) (wC (.int 0))) (wC (.int 0)))) (wVar 2)))) (wSeq (wAsg (wOp oIx (wVar 3) (wC (.int 0))) (wgTup 2 (wgCons (wgName 4) (wgCons (wgName 5) (wgNil))))) (wRet (wTupD (wVar 4) (wOp oAdd (wIf (wT (wOp (oIB fun i j => decide (j < i)) (wVar 5) (wC (.int 1)))) (wLst (wCons (wTup (wCons (wVar 4) (wCons (wOp (oII (fun _ _ => True) (· - ·)) (wVar 5) (wC (.int 1))) (wNil)))) (wNil))) (wLst (wNil))) (wSlL (wVar 3) (wPart (wC (.int 1))) (wNoP)))))) (wNext)) (wSeq (wIfS (wT (wOp oEq (wVar 2) (wC (.int 0)))) (wRet (wC .none)) (wNext)) (wSeq (wSet 6 (wOp oIx (wVar 0) (wOp (oII (fun _ _ => True) (· - ·)) (wVar 2) (wC (.int 1))))) (wRet (wTupD (wOp (oII (fun _ _ => True) (· - ·)) (wVar 2) (wC (.int 1))) (wOp oAdd (wIf (wT (wOp oEq (wOp oIx (wVar 6) (wC (.int 0))) (wC (.str "repeat")))) (wLst (wCons (wTup (wCons (wOp (oII (fun _ _ => True) (· - ·)) (wVar 2) (wC (.int 1))) (wCons (wOp oIx (wVar 6) (wC (.int 2))) (wNil)))) (wNil))) (wLst (wNil))) (wVar 3)))))))))
theorem fv_previous_stateB (f : Bool) : FnV (fs_previous_stateB f) 7 w_previous_stateD := by
  rintro io ds Q X ⟨rfl, l, p, a, rfl, h, hl, hp, v, q⟩
  show w_previous_stateD [.sh (.list (sc l)), .sh (stD p a), .no, .no, .no, .no, .no] _ _
  have hal := Vs_len v hp
  simp [w_previous_stateD]
  refine ⟨rfl, l, rfl, h, by omega, ?_⟩
  simp
  refine ⟨rfl, l, p, a, rfl, h, by omega, hp, v, ?_⟩
  have s0 := shA a
  have hz : p = 0 ∨ (p ≠ 0 ∧ ∃ it, l[p - 1]? = some it ∧ ∀ k, oIx (.list (sc l)) (.int ((p : Int) - 1)) k = k (.sh it.d)) := by
    by_cases z : p = 0
    · exact .inl z
    · have hl1 : p - 1 < l.length := by omega
      refine .inr ⟨z, _, List.getElem?_eq_getElem hl1, fun k => ?_⟩
      rw [show (p : Int) - 1 = ((p - 1 : Nat) : Int) by omega]
      exact ix_lnE (sc_get (List.getElem?_eq_getElem hl1))
  have ep : p ≠ 0 → ((p - 1 : Nat) : Int) = (p : Int) - 1 := fun _ => by omega
  cases a with
  | nil =>
    simp only [aD, List.map_nil] at s0
    unfold pvR prv at q
    rcases hz with z | ⟨z, it, ei, ixp⟩
    · simp [z] at q
      simp [stD, aD, s0, PyData.eqv, PyData.eqvAll, shaped_int, z]
      exact q
    · have ep := ep z
      cases it with
      | bar m =>
        simp [z, ei, stD, aD, ep] at q
        simp [stD, aD, s0, PyData.eqv, PyData.eqvAll, shaped_int, z, ixp, It.d, sh_bar, sh_rep, br]
        cases f with
        | true => first | exact .inr (.inr q) | exact .inr q
        | false => first | exact .inl (.inl q) | exact .inl q
      | mark m =>
        simp [z, ei, stD, aD, ep] at q
        simp [stD, aD, s0, PyData.eqv, PyData.eqvAll, shaped_int, z, ixp, It.d, sh_mark, sh_rep, mr]
        cases f with
        | true => first | exact .inr (.inr q) | exact .inr q
        | false => first | exact .inl (.inl q) | exact .inl q
      | rep m cc =>
        simp [z, ei, stD, aD, ep, entD] at q
        simp [stD, aD, s0, PyData.eqv, PyData.eqvAll, shaped_int, z, ixp, It.d, sh_rep, rr]
        cases f with
        | true => exact .inr ⟨smallE (by decide), q⟩
        | false => exact .inl ⟨smallE (by decide), q⟩
  | cons x a =>
    obtain ⟨r, c⟩ := x
    have e0 := eqvA0 ((r, c) :: a)
    simp only [aD, List.map_cons] at s0 e0
    obtain ⟨⟨v1, v2, v3, v4, v5⟩, v6⟩ := v
    have v1 : isRep l r = true := v1
    obtain ⟨n, cc, e⟩ := isRep_iff.mp v1
    simp [stD, aD, s0, shNil, e0]
    refine ⟨rfl, l, rfl, h, by omega, fun sps hSS => ?_⟩
    obtain ⟨j, j1, j2, j3⟩ := hSS r n cc e
    have hst := stt_eq h e j2
    simp [entD, ev_ixd, j3, shaped_int, eqv_int]
    have hal' : a.length ≤ 1000 := by simp at hal; omega
    unfold pvR prv at q
    by_cases y : j + 1 = p
    · rw [if_pos (by omega)]
      rw [cut_tail]
      simp only [hst, y, if_true] at q
      by_cases c1 : 1 < c
      · rw [if_pos c1, if_pos c1]
        rw [if_pos c1] at q
        cases f with
        | true => exact .inr ⟨smallE (by rw [List.length_map]; omega), q⟩
        | false => exact .inl ⟨smallE (by rw [List.length_map]; omega), q⟩
      · rw [if_neg c1, if_neg c1]
        rw [if_neg c1] at q
        cases f with
        | true => exact .inr ⟨smallE (by rw [List.length_map]; omega), q⟩
        | false => exact .inl ⟨smallE (by rw [List.length_map]; omega), q⟩
    · rw [if_neg (by omega)]
      simp only [hst, y, if_false] at q
      rcases hz with z | ⟨z, it, ei, ixp⟩
      · simp [z] at q
        rw [if_pos z]
        exact q
      · have ep := ep z
        rw [if_neg z]
        cases it with
        | bar m =>
          simp [z, ei, stD, aD, ep, entD] at q
          simp [ixp, It.d, sh_bar, sh_rep, br, eqv_str]
          cases f with
          | true => exact .inr ⟨smallE (by omega), q⟩
          | false => exact .inl ⟨smallE (by omega), q⟩
        | mark m =>
          simp [z, ei, stD, aD, ep, entD] at q
          simp [ixp, It.d, sh_mark, sh_rep, mr, eqv_str]
          cases f with
          | true => exact .inr ⟨smallE (by omega), q⟩
          | false => exact .inl ⟨smallE (by omega), q⟩
        | rep m cc =>
          simp [z, ei, stD, aD, ep, entD] at q
          simp [ixp, It.d, sh_rep, rr, eqv_str]
          cases f with
          | true => exact .inr ⟨smallE (by omega), q⟩
          | false => exact .inl ⟨smallE (by omega), q⟩
def fs_previous_stateD : FS := fsOr (fs_previous_stateB false) (fs_previous_stateB true)
theorem fv_previous_stateD : FnV fs_previous_stateD 7 w_previous_stateD := fnv_or (fv_previous_stateB false) (fv_previous_stateB true)
end SC

set_option Elab.async false
set_option linter.all false
set_option maxRecDepth 100000
namespace SC
open PySem L2 VL
def sxF (l : List It) : Nat → (Nat → Int)
  | 0 => fun _ => 0
  | n + 1 => fun k => if k = n + 1 then sxF l n n + 1 + (if isRep l n = true then cof l n * (1 + sxF l n n - sxF l n (stt l n)) else 0) else sxF l n k
def sx (l : List It) (k : Nat) : Int := sxF l k k
theorem sxF_le {l : List It} : ∀ {n k : Nat}, k ≤ n → sxF l n k = sx l k
  | 0, k, h => by have : k = 0 := by omega
                  subst this; rfl
  | n + 1, k, h => by
    by_cases z : k = n + 1
    · subst z; rfl
    · show (if k = n + 1 then _ else sxF l n k) = _
      rw [if_neg z, sxF_le (by omega)]
def sxw (l : List It) (r : Nat) : Int := 1 + sx l r - sx l (stt l r)
theorem sx_succ {l : List It} (h : ok [] l) (n : Nat) : sx l (n + 1) = sx l n + 1 + (if isRep l n = true then cof l n * sxw l n else 0) := by
  show (if n + 1 = n + 1 then _ else _) = _
  rw [if_pos rfl, sxF_le (Nat.le_refl n)]
  by_cases r : isRep l n = true
  · obtain ⟨_, s2, _⟩ := stt_rep h r
    rw [if_pos r, if_pos r, sxF_le s2]
    rfl
  · rw [if_neg r, if_neg r]
theorem sx_mono {l : List It} (h : ok [] l) : ∀ j i, i ≤ j → sx l i ≤ sx l j
  | 0, i, hij => by have : i = 0 := by omega
                    subst this; exact Int.le_refl _
  | j + 1, i, hij => by
    by_cases z : i = j + 1
    · subst z; exact Int.le_refl _
    · have h1 := sx_mono h j i (by omega)
      rw [sx_succ h]
      by_cases r : isRep l j = true
      · obtain ⟨_, s2, _⟩ := stt_rep h r
        have h2 := sx_mono h j (stt l j) s2
        have h3 := Int.mul_nonneg (cof_nn h j) (show 0 ≤ sxw l j by unfold sxw; omega)
        rw [if_pos r]; omega
      · rw [if_neg r]; omega
theorem sx_nn {l : List It} (h : ok [] l) (n : Nat) : 0 ≤ sx l n := sx_mono h n 0 (Nat.zero_le _)
theorem sxw_ok {l : List It} (h : ok [] l) {r : Nat} (hr : isRep l r = true) : 1 ≤ sxw l r ∧ sx l r + cof l r * sxw l r + 1 = sx l (r + 1) := by
  obtain ⟨_, s2, _⟩ := stt_rep h hr
  have := sx_mono h r (stt l r) s2
  refine ⟨by unfold sxw; omega, ?_⟩
  rw [sx_succ h, if_pos hr]; omega
theorem sx_lt {l : List It} (h : ok [] l) : ∀ n, sx l n + 1 ≤ ((2 ^ (33 * n) : Nat) : Int)
  | 0 => by show (0 : Int) + 1 ≤ 1; decide
  | n + 1 => by
    have ih := sx_lt h n
    have hp : ((2 ^ (33 * (n + 1)) : Nat) : Int) = ((2 ^ (33 * n) : Nat) : Int) * 8589934592 := by
      rw [show 33 * (n + 1) = 33 * n + 33 by omega, Nat.pow_add]; simp
    have h0 := sx_nn h n
    rw [hp, sx_succ h]
    by_cases r : isRep l n = true
    · obtain ⟨_, s2, n', c', e1, _, e3⟩ := stt_rep h r
      have hc := ok_count h e1
      have h2 := sx_nn h (stt l n)
      have hm : cof l n * sxw l n ≤ 2147483648 * (1 + sx l n) := by
        have a1 := Int.mul_le_mul_of_nonneg_right (show cof l n ≤ 2147483648 by omega) (show 0 ≤ sxw l n by have := (sxw_ok h r).1; omega)
        have a2 : sxw l n ≤ 1 + sx l n := by unfold sxw; omega
        have a3 := Int.mul_le_mul_of_nonneg_left a2 (show (0 : Int) ≤ 2147483648 by decide)
        omega
      rw [if_pos r]
      omega
    · rw [if_neg r]
      omega
def sv (l : List It) (p : Nat) (a : Act) : Int := sx l p + aw (sxw l) a
theorem sv_le {l : List It} (h : ok [] l) {p : Nat} {a : Act} (hp : p ≤ l.length) (v : Vs l p p a) : sv l p a ≤ sx l l.length := by
  have := aw_up (L := l) (F := sx l) (w := sxw l) (fun i j hij _ => sx_mono h j i hij) (fun r hr => by have := sxw_ok h hr; omega) (x := sx l p) v hp (Int.le_refl _)
  have h2 := sx_mono h l.length _ (eM_le hp v)
  unfold sv
  omega
theorem sv_nxt {l : List It} (h : ok [] l) {p : Nat} {a : Act} (hp : p < l.length) (v : Vs l p p a) : sv l (nxt l p a).2.1 (nxt l p a).2.2 = sv l p a + 1 := by
  have ei := List.getElem?_eq_getElem hp
  unfold nxt
  cases c : l[p] with
  | bar m =>
    rw [c] at ei
    rw [ei]
    show sv l (p + 1) a = _
    have : isRep l p = false := bar_rep ei
    unfold sv
    rw [sx_succ h, this]
    simp; omega
  | mark m =>
    rw [c] at ei
    rw [ei]
    show sv l (p + 1) a = _
    have : isRep l p = false := by unfold isRep; rw [ei]
    unfold sv
    rw [sx_succ h, this]
    simp; omega
  | rep m cc =>
    rw [c] at ei
    rw [ei]
    dsimp only
    have hr : isRep l p = true := isRep_iff.mpr ⟨m, cc, ei⟩
    obtain ⟨⟨c0, c1⟩, v1, e, _⟩ := cH_ok h v
    have hcof : cof l p = cc := by simp [cof, ei]
    obtain ⟨w1, w2⟩ := sxw_ok h hr
    by_cases z : (cH p a).1 < cc
    · rw [if_pos z]
      show sv l (stt l p) ((p, (cH p a).1 + 1) :: (cH p a).2) = _
      unfold sv
      rw [e, aw_cons]
      show _ + (((cH p a).1 + 1) * sxw l p + _) = _
      rw [Int.add_mul, Int.one_mul]
      unfold sxw at *
      omega
    · rw [if_neg z]
      show sv l (p + 1) (cH p a).2 = _
      have : (cH p a).1 = cof l p := by omega
      unfold sv
      rw [e, this]
      omega
def sxD (l : List It) (n : Nat) : List D := (List.range n).map fun k => PyData.int (sx l k)
theorem sxD_length (l : List It) (n : Nat) : (sxD l n).length = n := by unfold sxD; rw [List.length_map, List.length_range]
theorem sxD_succ (l : List It) (n : Nat) : sxD l (n + 1) = sxD l n ++ [.int (sx l n)] := by unfold sxD; rw [List.range_succ, List.map_append]; rfl
theorem sxD_get {l : List It} {n k : Nat} (h : k < n) : (sxD l n)[k]? = some (.int (sx l k)) := by unfold sxD; rw [List.getElem?_map, List.getElem?_range h]; rfl
theorem sxD_last (l : List It) (n : Nat) : (sxD l (n + 1)).getLast? = some (.int (sx l n)) := by rw [sxD_succ, List.getLast?_append]; rfl
def fs_law_steps : FS := fun io ds Q _ => io = none ∧ ∃ l : List It, ds = [.list (sc l)] ∧ ok [] l ∧ l.length ≤ 1000 ∧ Q (.sh (.int (sx l l.length))) none
def w_law_steps : WS := wSeq (wPar [1, 2] (wsCons (wCall fs_law_starts [] (wCons (wVar 0) (wNil))) (wsCons (wLst (wCons (wC (.int 0)) (wNil))) (wsNil)))) (wSeq (wFor (wiA enumD (wCons (wVar 0) (wNil))) (wgTup 2 (wgCons (wgName 3) (wgCons (wgName 4) (wgNil)))) (wSeq (wSet 5 (wC (.int 1))) (wSeq (wIfS (wT (wOp oEq (wOp oIx (wVar 4) (wC (.int 0))) (wC (.str "repeat")))) (wSet 5 (wOp oAdd (wC (.int 1)) (wOp oMul (wOp oIx (wVar 4) (wC (.int 2))) (wOp (oII (fun _ _ => True) (· - ·)) (wOp oAdd (wC (.int 1)) (wOp oIx (wVar 2) (wVar 3))) (wOp oIx (wVar 2) (wOp oIx (wVar 1) (wVar 3))))))) (wNext)) (wDrop (wMut 2 fAppend (wCons (wOp oAdd (wOp oIx (wVar 2) (wUn (fun a k => isI a fun i => k (.sh (.int (-i)))) (wC (.int 1)))) (wVar 5)) wNil)))))) (wRet (wOp oIx (wVar 2) (wUn (fun a k => isI a fun i => k (.sh (.int (-i)))) (wC (.int 1))))))
theorem fv_law_steps : FnV fs_law_steps 6 w_law_steps := by
  rintro io ds Q X ⟨rfl, l, rfl, h, hl, q⟩
  show w_law_steps [.sh (.list (sc l)), .no, .no, .no, .no, .no] _ _
  simp [w_law_steps, ev_wFor, enumD_eq]
  refine ⟨rfl, l, rfl, h, hl, ?_⟩
  simp
  refine loop_inv (fun i Γ => ∃ a3 a4 a5 : Sl, Γ = [.sh (.list (sc l)), .ow (.dict (RpD l l.length)), .ow (.list (sxD l (i + 1))), a3, a4, a5]) ⟨_, _, _, rfl⟩ ?_ ?_
  · rintro i d Γ k hd ⟨a3, a4, a5, rfl⟩ hk
    obtain ⟨it, hit, rfl⟩ := enumF_it hd
    have hi := (List.getElem?_eq_some_iff.mp hit).1
    have hz : (sxD l (i + 1)).length < sizeLine := small (by rw [sxD_length]; omega)
    have il := fun k => ix_lastE (k := k) (sxD_last l i)
    have fin : ∀ (x : Int) (a3 a4 a5 : Sl), x = sx l (i + 1) → k [.sh (.list (sc l)), .ow (.dict (RpD l l.length)), .ow (.list (sxD l (i + 1) ++ [.int x])), a3, a4, a5] := fun x a3 a4 a5 e => hk _ ⟨a3, a4, a5, by rw [sxD_succ l (i + 1), e]⟩
    have e1 := sx_succ h i
    cases it with
    | bar nm =>
      have r : isRep l i = false := bar_rep hit
      rw [r] at e1
      simp [It.d, sh_bar, sh_rep, eqv_str, br, il]
      exact ⟨hz, fin _ _ _ _ (by rw [e1]; simp)⟩
    | mark nm =>
      have r : isRep l i = false := by unfold isRep; rw [hit]
      rw [r] at e1
      simp [It.d, sh_mark, sh_rep, eqv_str, mr, il]
      exact ⟨hz, fin _ _ _ _ (by rw [e1]; simp)⟩
    | rep nm c =>
      have r : isRep l i = true := by unfold isRep; rw [hit]
      obtain ⟨s1, s2, n', c', f1, f2, f3⟩ := stt_rep h r
      rw [hit] at f1; cases f1
      have hc := ok_count h hit
      have t1 := sx_lt h i
      have t2 := sx_mono h i (stt l i) s2
      have t3 := sx_nn h (stt l i)
      have i1 := fun k => ix_lnE (k := k) (sxD_get (l := l) (n := i + 1) (k := i) (by omega))
      have i2 := fun k => ix_lnE (k := k) (sxD_get (l := l) (n := i + 1) (k := stt l i) (by omega))
      have hm : CMulW c (1 + sx l i - sx l (stt l i)) := wide_mul (a := 32) (b := 33 * i + 1) (by omega) (by
        have : 2 ^ (33 * i + 1) = 2 ^ (33 * i) * 2 := Nat.pow_succ ..
        omega) (by decide) (by omega) (by omega)
      rw [if_pos r, f3] at e1
      simp [It.d, sh_rep, eqv_str, rr, il, i1, i2, ev_ixd, RpD_get hi r, hm]
      refine ⟨hz, fin _ _ _ _ ?_⟩
      rw [e1]
      unfold sxw
      omega
  · rintro Γ ⟨a3, a4, a5, rfl⟩
    have el : (enumF 0 (sc l)).length = l.length := by rw [enumF_length, sc_length]
    rw [el]
    simp [ix_lastE (sxD_last l l.length)]
    exact q
theorem ok_pre {l : List It} (h : ok [] l) (k : Nat) : ok [] (l.take k) := ((ok_app (l.take k) (l.drop k) []).mp (by rw [List.take_append_drop]; exact h)).1
def fs_law_small : FS := fun io ds Q _ => ∃ (c : Int) (b : Nat), io = some (.op 1 (.int c)) ∧ 0 ≤ c ∧ c ≤ 800000 ∧ ds = [.int (b : Int)] ∧ b ≤ 100000 ∧ ∀ (l : List It) (c' : Int), ok [] l → l.length ≤ 14 → tl l l.length ≤ b → sx l l.length ≤ 5 * b + 100 → c ≤ c' → c' ≤ c + 3000 → Q (.ow (.list (sc l))) (some (.op 1 (.int c')))
def w_law_small : WS := wSeq (wSet 2 (wCallIo fs_law_items 0 [] (wCons (wC (.int 14)) (wCons (wC (.int 3)) (wNil))))) (wSeq (wWhile (wOr (wT (wOp (oIB fun i j => decide (j < i)) (wFz (wOp oIx (wCall fs_law_timesK [] (wCons (wVar 2) (wNil))) (wUn (fun a k => isI a fun i => k (.sh (.int (-i)))) (wC (.int 1))))) (wVar 1))) (wT (wOp (oIB fun i j => decide (j < i)) (wFz (wCall fs_law_steps [] (wCons (wVar 2) (wNil)))) (wOp oAdd (wOp oMul (wC (.int 5)) (wVar 1)) (wC (.int 100)))))) (wDrop (wMut0 2 fPop))) (wRet (wVar 2)))
theorem fv_law_small : FnV fs_law_small 3 w_law_small := by
  rintro io ds Q X ⟨c, b, rfl, c0, c1, rfl, hb, q⟩
  show w_law_small [.op 1 (.int c), .sh (.int (b : Int)), .no] _ _
  simp [w_law_small]
  refine ⟨c, 14, 3, rfl, c0, by omega, rfl, by decide, by decide, by decide, by decide, fun l0 c' h0 hl0 g0 g1 => ?_⟩
  simp
  refine while_inv (fun N Γ => ∃ l : List It, Γ = [.op 1 (.int c'), .sh (.int (b : Int)), .ow (.list (sc l))] ∧ ok [] l ∧ l.length ≤ 14 ∧ N = l.length) l0.length ⟨l0, rfl, h0, by omega, rfl⟩ ?_
  rintro N Γ k ⟨l, rfl, h, hl, rfl⟩ hk
  have hil := fun k => ix_lastE (k := k) (tlD_last l l.length)
  have hm : CMulW 5 (b : Int) := mul_ok (b := 32) (by decide) (by omega) (by decide) (by decide)
  have pop : l ≠ [] → getS [.op 1 (.int c'), .sh (.int (b : Int)), .ow (.list (sc l))] 2 (fun s => slOw s 2 [.op 1 (.int c'), .sh (.int (b : Int)), .ow (.list (sc l))] fun d f' => isL d fun l => fPop l [] fun l' r => k (f' (.list l'))) := fun hne => by
    obtain ⟨b', x, rfl⟩ : ∃ b' x, l = b' ++ [x] := ⟨_, _, (List.dropLast_concat_getLast hne).symm⟩
    have e1 : (sc (b' ++ [x])).getLast? = some x.d := by simp [sc]
    have e2 : (sc (b' ++ [x])).dropLast = sc b' := by simp [sc]
    simp [fPop, e1, e2]
    have ob : ok [] b' := by have := ok_pre h b'.length; simpa using this
    exact hk b'.length _ (by simp) ⟨b', rfl, ob, by simp at hl; omega, rfl⟩
  simp
  refine ⟨rfl, l, rfl, h, by omega, ?_⟩
  simp [hil]
  by_cases z : b < tl l l.length
  · rw [if_pos (by omega)]
    refine (show _ from ?_)
    have := pop (fun e => by subst e; exact absurd z (Nat.not_lt_zero _))
    simpa using this
  · rw [if_neg (by omega)]
    refine ⟨rfl, l, rfl, h, by omega, ?_⟩
    simp [hm]
    by_cases y : 5 * (b : Int) + 100 < sx l l.length
    · rw [if_pos y]
      have := pop (fun e => by subst e; have : sx [] 0 = 0 := rfl; simp at y; omega)
      simpa using this
    · rw [if_neg y]
      exact q l c' h hl (by omega) (by omega) g0 g1
end SC

set_option Elab.async false
set_option linter.all false
set_option maxRecDepth 100000
namespace SC
open PySem L2 VL
structure WkOk (l : List It) (W : List (Nat × Act)) : Prop where
  h0 : W[0]? = some (0, [])
  st : ∀ (j : Nat) x y, W[j]? = some x → W[j + 1]? = some y → x.1 < l.length ∧ y = (nxt l x.1 x.2).2
def evW (l : List It) (x : Nat × Act) : D := .list [stD x.1 x.2, .str (nxt l x.1 x.2).1]
def wkD (l : List It) (W : List (Nat × Act)) : List D := W.map (evW l)
theorem WkOk.at {l : List It} (h : ok [] l) {W : List (Nat × Act)} (w : WkOk l W) : ∀ (j : Nat) x, W[j]? = some x → x.1 ≤ l.length ∧ Vs l x.1 x.1 x.2 ∧ sv l x.1 x.2 = j
  | 0, x, e => by
    rw [w.h0] at e; cases e
    exact ⟨Nat.zero_le _, True.intro, by unfold sv; rw [aw_nil]; rfl⟩
  | j + 1, x, e => by
    have hj : j < W.length := by have := (List.getElem?_eq_some_iff.mp e).1; omega
    obtain ⟨a1, a2, a3⟩ := w.at h j _ (List.getElem?_eq_getElem hj)
    obtain ⟨b1, b2⟩ := w.st j _ _ (List.getElem?_eq_getElem hj) e
    obtain ⟨c1, c2, _⟩ := nxt_ok h b1 a2
    have c3 := sv_nxt h b1 a2
    rw [b2]
    exact ⟨c1, c2, by rw [c3, a3]; simp⟩
theorem WkOk.snoc {l : List It} {W : List (Nat × Act)} {x : Nat × Act} (w : WkOk l (W ++ [x])) (hx : x.1 < l.length) : WkOk l (W ++ [x] ++ [(nxt l x.1 x.2).2]) := by
  refine ⟨?_, fun j y z hy hz => ?_⟩
  · rw [List.getElem?_append_left (by simp)]; exact w.h0
  · by_cases hj : j + 1 < (W ++ [x]).length
    · rw [List.getElem?_append_left (by omega)] at hy
      rw [List.getElem?_append_left hj] at hz
      exact w.st j y z hy hz
    · have hlen : (W ++ [x]).length = W.length + 1 := by simp
      have hz' := (List.getElem?_eq_some_iff.mp hz).1
      rw [List.length_append, List.length_singleton] at hz'
      have : j = W.length := by omega
      subst this
      rw [List.getElem?_append_left (by omega), List.getElem?_append_right (Nat.le_refl _), Nat.sub_self] at hy
      rw [List.getElem?_append_right (by omega), hlen, Nat.sub_self] at hz
      cases hy
      cases hz
      exact ⟨hx, rfl⟩
def agl (a : Act) (k : Nat) : Option Int := (a.find? fun q => q.1 == k).map (·.2)
structure Agr (l : List It) (n : Nat) (a : Act) (ps : List (D × D)) : Prop where
  ks : ∃ ms : List Nat, ps.map (·.1) = ms.map (fun k : Nat => PyData.int (k : Int)) ∧ ms.Nodup ∧ ∀ k ∈ ms, k < l.length
  ag : ∀ k, n ≤ k → dget ps (.int (k : Int)) = (agl a k).map PyData.int
theorem sorted_ext : ∀ {a b : List Int}, a.Pairwise (· < ·) → b.Pairwise (· < ·) → (∀ x, x ∈ a ↔ x ∈ b) → a = b
  | [], [], _, _, _ => rfl
  | [], y :: b, _, _, h => by have := (h y).mpr List.mem_cons_self; cases this
  | x :: a, [], _, _, h => by have := (h x).mp List.mem_cons_self; cases this
  | x :: a, y :: b, ha, hb, h => by
    obtain ⟨h1, h2⟩ := List.pairwise_cons.mp ha
    obtain ⟨h3, h4⟩ := List.pairwise_cons.mp hb
    have e : x = y := by
      rcases List.mem_cons.mp ((h x).mp List.mem_cons_self) with z | z
      · exact z
      · rcases List.mem_cons.mp ((h y).mpr List.mem_cons_self) with y' | y'
        · exact y'.symm
        · have := h1 y y'; have := h3 x z; omega
    subst e
    congr 1
    refine sorted_ext h2 h4 fun z => ?_
    constructor
    · intro hz
      rcases List.mem_cons.mp ((h z).mp (List.mem_cons_of_mem _ hz)) with e | e
      · have := h1 z hz; omega
      · exact e
    · intro hz
      rcases List.mem_cons.mp ((h z).mpr (List.mem_cons_of_mem _ hz)) with e | e
      · have := h3 z hz; omega
      · exact e
theorem Vs_ge {l : List It} {ins m : Nat} : ∀ {a : Act}, Vs l ins m a → ∀ q ∈ a, m ≤ q.1
  | [], _, _, h => nomatch h
  | x :: a, ⟨⟨_, h2, _⟩, h4⟩, q, hq => by
    rcases List.mem_cons.mp hq with rfl | hq
    · exact h2
    · have := Vs_ge h4 q hq
      omega
theorem Vs_asc {l : List It} {ins m : Nat} : ∀ {a : Act}, Vs l ins m a → (a.map fun q => (q.1 : Int)).Pairwise (· < ·)
  | [], _ => .nil
  | x :: a, ⟨_, h4⟩ => List.pairwise_cons.mpr ⟨fun z hz => by
    obtain ⟨q, hq, rfl⟩ := List.mem_map.mp hz
    have := Vs_ge h4 q hq
    show (x.1 : Int) < (q.1 : Int)
    omega, Vs_asc h4⟩
theorem agl_mem {a : Act} {k : Nat} {c : Int} (h : agl a k = some c) : (k, c) ∈ a := by
  unfold agl at h
  cases e : a.find? (fun q => q.1 == k) with
  | none => rw [e] at h; cases h
  | some q =>
    rw [e] at h
    have h1 := List.mem_of_find?_eq_some e
    have h2 := List.find?_some e
    have h2 : q.1 = k := by simpa using h2
    have : q = (k, c) := Prod.ext h2 (by simpa using h)
    rw [← this]; exact h1
theorem agl_none {a : Act} {k : Nat} (h : ∀ q ∈ a, q.1 ≠ k) : agl a k = none := by
  unfold agl
  have : a.find? (fun q => q.1 == k) = none := List.find?_eq_none.mpr fun q hq => by simpa using h q hq
  rw [this]; rfl
theorem agl_cons (q : Nat × Int) (a : Act) (k : Nat) : agl (q :: a) k = if q.1 = k then some q.2 else agl a k := by
  unfold agl
  rw [List.find?_cons]
  by_cases z : q.1 = k
  · simp [z]
  · have : (q.1 == k) = false := by simpa using z
    rw [if_neg z, this]
theorem agl_of {l : List It} {ins m : Nat} : ∀ {a : Act}, Vs l ins m a → ∀ q ∈ a, agl a q.1 = some q.2
  | [], _, _, h => nomatch h
  | x :: a, ⟨_, h4⟩, q, hq => by
    rw [agl_cons]
    rcases List.mem_cons.mp hq with rfl | hq
    · rw [if_pos rfl]
    · have := Vs_ge h4 q hq
      rw [if_neg (by omega)]
      exact agl_of h4 q hq
theorem dget_key {ps : List (D × D)} {ms : List Nat} (h : ps.map (·.1) = ms.map (fun k : Nat => PyData.int (k : Int))) (k : Nat) : (dget ps (.int (k : Int))).isSome = true ↔ k ∈ ms := by
  induction ps generalizing ms with
  | nil =>
    cases ms with
    | nil => simp [dget]
    | cons m ms => simp at h
  | cons p ps ih =>
    cases ms with
    | nil => simp at h
    | cons m ms =>
      rw [List.map_cons, List.map_cons] at h
      injection h with h1 h2
      have ih := ih h2
      unfold dget at ih ⊢
      rw [List.find?_cons, List.mem_cons, h1]
      by_cases z : m = k
      · subst z; simp [keyEq]
      · have z' : ¬ (m : Int) = (k : Int) := by omega
        have z2 : ¬ k = m := fun e => z e.symm
        simp only [keyEq, beq_iff_eq, z', beq_eq_false_iff_ne.mpr z', z2, false_or]
        exact ih
theorem act_list {l : List It} {n : Nat} {a : Act} {ps : List (D × D)} (v : Vs l n n a) (g : Agr l n a ps) {ms : List Nat} (hk : ps.map (·.1) = ms.map (fun k : Nat => PyData.int (k : Int))) (hn : ms.Nodup) {ys : List Int} (hp : ys.Perm (ms.map fun k : Nat => (k : Int))) (hs : ys.Pairwise (· ≤ ·)) :
    ys.filter (fun y => decide ((n : Int) ≤ y)) = a.map fun q => (q.1 : Int) := by
  have nd : ys.Nodup := hp.symm.nodup (List.pairwise_map.mpr (List.Pairwise.imp (fun {a b} h e => h (by omega)) hn))
  have hs2 : ys.Pairwise (· < ·) := by
    have := hs.and nd
    exact this.imp fun {a b} h => by omega
  refine sorted_ext (hs2.filter _) (Vs_asc v) fun x => ?_
  rw [List.mem_filter, hp.mem_iff]
  constructor
  · rintro ⟨h1, h2⟩
    obtain ⟨k, hk1, rfl⟩ := List.mem_map.mp h1
    have h2 : n ≤ k := by simpa using h2
    have := (dget_key hk k).mpr hk1
    rw [g.ag k h2] at this
    cases e : agl a k with
    | none => rw [e] at this; cases this
    | some c => exact List.mem_map.mpr ⟨(k, c), agl_mem e, rfl⟩
  · intro h
    obtain ⟨q, hq, rfl⟩ := List.mem_map.mp h
    have h2 := Vs_ge v q hq
    refine ⟨List.mem_map.mpr ⟨q.1, (dget_key hk q.1).mp ?_, rfl⟩, by simpa using h2⟩
    rw [g.ag q.1 h2, agl_of v q hq]; rfl
theorem dget_dropI : ∀ (ps : List (D × D)) (x y : Int), dget (ddrop ps (.int x)) (.int y) = if x = y then none else dget ps (.int y)
  | [], x, y => by simp [ddrop, dget]
  | p :: ps, x, y => by
    have ih := dget_dropI ps x y
    unfold ddrop dget at ih ⊢
    rw [List.filter_cons]
    by_cases z : keyEq p.1 (.int x) = true
    · simp only [z, Bool.not_true, Bool.false_eq_true, if_false]
      rw [ih]
      by_cases e : x = y
      · rw [if_pos e, if_pos e]
      · rw [if_neg e, if_neg e, List.find?_cons]
        have : keyEq p.1 (.int y) = false := by
          cases h : p.1 with
          | int w =>
            rw [h] at z
            simp [keyEq] at z ⊢
            omega
          | _ => rfl
        rw [this]
    · have z' : keyEq p.1 (.int x) = false := by simpa using z
      simp only [z', Bool.not_false, if_true]
      rw [List.find?_cons, List.find?_cons]
      by_cases y' : keyEq p.1 (.int y) = true
      · have e : ¬ x = y := fun e => by subst e; rw [y'] at z'; cases z'
        simp [y', e]
      · have y2 : keyEq p.1 (.int y) = false := by simpa using y'
        rw [y2]
        exact ih
theorem key_eqI {k : Nat} {d : D} {x : Int} (h : d = .int (k : Int)) : keyEq d (.int x) = decide ((k : Int) = x) := by
  subst h
  by_cases z : (k : Int) = x <;> simp [keyEq, z]
theorem keys_drop : ∀ {ps : List (D × D)} {ms : List Nat} (x : Nat), ps.map (·.1) = ms.map (fun k : Nat => PyData.int (k : Int)) → (ddrop ps (.int (x : Int))).map (·.1) = (ms.filter fun k => decide (k ≠ x)).map (fun k : Nat => PyData.int (k : Int))
  | [], [], _, _ => rfl
  | [], _ :: _, _, h => by simp at h
  | _ :: _, [], _, h => by simp at h
  | p :: ps, m :: ms, x, h => by
    rw [List.map_cons, List.map_cons] at h
    injection h with h1 h2
    have ih := keys_drop x h2
    unfold ddrop at ih ⊢
    rw [List.filter_cons, List.filter_cons, key_eqI h1]
    by_cases z : m = x
    · subst z; simp; simpa using ih
    · have : ¬ (m : Int) = (x : Int) := by omega
      simp [this, z, h1]; simpa using ih
theorem keys_put {ps : List (D × D)} {ms : List Nat} (x : Nat) (v : D) (h : ps.map (·.1) = ms.map (fun k : Nat => PyData.int (k : Int))) (hn : ms.Nodup) : ∃ ms' : List Nat, (dput ps (.int (x : Int)) v).map (·.1) = ms'.map (fun k : Nat => PyData.int (k : Int)) ∧ ms'.Nodup ∧ ∀ k, k ∈ ms' ↔ k ∈ ms ∨ k = x := by
  have hany : ps.any (fun p => keyEq p.1 (.int (x : Int))) = true ↔ x ∈ ms := by
    rw [← dget_key h x]
    unfold dget
    rw [Option.isSome_map, List.find?_isSome, List.any_eq_true]
  by_cases z : x ∈ ms
  · refine ⟨ms, ?_, hn, fun k => ⟨.inl, fun y => y.elim id fun e => e ▸ z⟩⟩
    unfold dput
    rw [if_pos (hany.mpr z), List.map_map, ← h]
    refine List.map_congr_left fun p _ => ?_
    show (if keyEq p.1 (.int (x : Int)) = true then (p.1, v) else p).1 = p.1
    split <;> rfl
  · refine ⟨ms ++ [x], ?_, ?_, fun k => by simp⟩
    · unfold dput
      rw [if_neg fun y => z (hany.mp y), List.map_append, List.map_append, h]
      rfl
    · exact List.nodup_append.mpr ⟨hn, by simp, fun a ha b hb e => by
        have : b = x := by simpa using hb
        subst this; subst e; exact z ha⟩
theorem Agr.on {l : List It} {n : Nat} {a : Act} {ps : List (D × D)} (h : ok [] l) (v : Vs l n n a) (g : Agr l n a ps) : Agr l (n + 1) (cH n a).2 ps := by
  refine ⟨g.ks, fun k hk => ?_⟩
  rw [g.ag k (by omega)]
  obtain ⟨_, _, _, e⟩ := cH_ok h v
  congr 1
  rw [e]
  by_cases z : (cH n a).1 = 0
  · rw [if_pos z]
    have e2 : cH n ([] ++ (cH n a).2) = cH n a := by rw [if_pos z] at e; rw [← e]
    rw [e2]; rfl
  · rw [if_neg z]
    have e2 : cH n ([(n, (cH n a).1)] ++ (cH n a).2) = cH n a := by rw [if_neg z] at e; rw [← e]
    rw [e2]
    show agl ((n, (cH n a).1) :: (cH n a).2) k = _
    rw [agl_cons, if_neg (by show n ≠ k; omega)]
theorem Agr.here {l : List It} {n : Nat} {a : Act} {ps : List (D × D)} (h : ok [] l) (v : Vs l n n a) (g : Agr l n a ps) : (dget ps (.int (n : Int))).getD (.int 0) = .int (cH n a).1 := by
  rw [g.ag n (Nat.le_refl n)]
  cases a with
  | nil => rfl
  | cons q b =>
    by_cases z : q.1 = n
    · simp [agl_cons, cH, z]
    · have : agl (q :: b) n = none := agl_none fun x hx => by
        have := Vs_ge v x hx
        rcases List.mem_cons.mp hx with rfl | hx
        · exact z
        · have := Vs_ge v.2 x hx
          have h2 : n ≤ q.1 := v.1.2.1
          omega
      rw [this]
      simp [cH, z]
theorem nodup_lenN : ∀ (N : Nat) (l : List Nat), l.Nodup → (∀ x ∈ l, x < N) → l.length ≤ N
  | 0, l, _, h => by
    cases l with
    | nil => exact Nat.le_refl _
    | cons a l => exact absurd (h a List.mem_cons_self) (Nat.not_lt_zero _)
  | N + 1, l, hn, h => by
    by_cases z : N ∈ l
    · have := nodup_lenN N (l.erase N) (hn.erase N) fun x hx => by
        have h1 := (hn.mem_erase_iff).mp hx
        have := h x h1.2
        have := h1.1
        omega
      rw [List.length_erase_of_mem z] at this
      omega
    · have := nodup_lenN N l hn fun x hx => by
        have := h x hx
        have : x ≠ N := fun e => z (e ▸ hx)
        omega
      omega
def fs_law_walkK : FS := fun io ds Q _ => io = none ∧ ∃ l : List It, ds = [.list (sc l)] ∧ ok [] l ∧ l.length ≤ 1000 ∧ sx l l.length ≤ 100000 ∧ ∀ W, WkOk l (W ++ [(l.length, [])]) → Q (.ow (.list (wkD l W ++ [.list [stD l.length [], .none]]))) none
def w_law_walkK : WS := wSeq (wPar [1, 2, 3, 4] (wsCons (wCall fs_law_starts [] (wCons (wVar 0) (wNil))) (wsCons (wDict0) (wsCons (wC (.int 0)) (wsCons (wLst (wNil)) (wsNil)))))) (wSeq (wWhile (wT (wOp (oIB fun i j => decide (i < j)) (wVar 3) (wCB (o1 oLen) (wCons (wVar 0) (wNil))))) (wSeq (wSet 5 (wLc [7] (wiL (wCB (o1 oSortDI) (wCons (wVar 2) (wNil)))) (wgName 7) (wT (wOp (oIB fun i j => decide (j ≤ i)) (wVar 7) (wVar 3))) (wTup (wCons (wVar 7) (wCons (wOp oIx (wVar 2) (wVar 7)) (wNil)))))) (wSeq (wSet 6 (wOp oIx (wVar 0) (wVar 3))) (wIfS (wT (wOp oNe (wOp oIx (wVar 6) (wC (.int 0))) (wC (.str "repeat")))) (wSeq (wDrop (wMut 4 fAppend (wCons (wLst (wCons (wTup (wCons (wVar 3) (wCons (wVar 5) (wNil)))) (wCons (wIf (wT (wOp oEq (wOp oIx (wVar 6) (wC (.int 0))) (wC (.str "bar")))) (wC (.str "play")) (wC (.str "pass"))) (wNil)))) wNil))) (wSet 3 (wOp oAdd (wVar 3) (wC (.int 1))))) (wIfS (wT (wOp (oIB fun i j => decide (i < j)) (wDGet2 (wVar 2) (wVar 3) (wC (.int 0))) (wOp oIx (wVar 6) (wC (.int 2))))) (wSeq (wDrop (wMut 4 fAppend (wCons (wLst (wCons (wTup (wCons (wVar 3) (wCons (wVar 5) (wNil)))) (wCons (wC (.str "jump")) (wNil)))) wNil))) (wSeq (wDPut 2 (wVar 3) (wOp oAdd (wDGet2 (wVar 2) (wVar 3) (wC (.int 0))) (wC (.int 1)))) (wSeq (wFor (wiL (wLcO 2 [8] (wgName 8) (wT (wChain (oIB fun i j => decide (i ≤ j)) (oIB fun i j => decide (i < j)) (wOp oIx (wVar 1) (wVar 3)) (wVar 8) (wVar 3))) (wVar 8))) (wgName 7) (wDrop (wDPop 2 (wVar 7)))) (wSet 3 (wOp oIx (wVar 1) (wVar 3)))))) (wSeq (wDrop (wMut 4 fAppend (wCons (wLst (wCons (wTup (wCons (wVar 3) (wCons (wVar 5) (wNil)))) (wCons (wC (.str "continue")) (wNil)))) wNil))) (wSet 3 (wOp oAdd (wVar 3) (wC (.int 1)))))))))) (wRet (wOp oAdd (wVar 4) (wLst (wCons (wLst (wCons (wTup (wCons (wVar 3) (wCons (wLst (wNil)) (wNil)))) (wCons (wC .none) (wNil)))) (wNil))))))
theorem fv_law_walkK : FnV fs_law_walkK 9 w_law_walkK := by
  rintro io ds Q X ⟨rfl, l, rfl, h, hl, hsx, q⟩
  show w_law_walkK [.sh (.list (sc l)), .no, .no, .no, .no, .no, .no, .no, .no] _ _
  simp [w_law_walkK]
  refine ⟨rfl, l, rfl, h, hl, ?_⟩
  simp
  refine while_inv (fun N Γ => ∃ (W : List (Nat × Act)) (x : Nat × Act) (ps : List (D × D)) (a5 a6 a7 : Sl), Γ = [.sh (.list (sc l)), .ow (.dict (RpD l l.length)), .ow (.dict ps), .sh (.int (x.1 : Int)), .ow (.list (wkD l W)), a5, a6, a7, .no] ∧ (a7 = .no ∨ ∃ d, a7 = .sh d) ∧ WkOk l (W ++ [x]) ∧ Agr l x.1 x.2 ps ∧ N = (sx l l.length - W.length).toNat) (sx l l.length - 0).toNat ⟨[], (0, []), [], _, _, _, rfl, .inl rfl, ⟨rfl, fun j x y hx hy => by simp at hy⟩, ⟨⟨[], rfl, List.nodup_nil, fun k hk => nomatch hk⟩, fun k _ => rfl⟩, rfl⟩ ?_
  rintro N Γ k ⟨W, x, ps, a5, a6, a7, rfl, h7, hW, hag, rfl⟩ hk
  have hx : (W ++ [x])[W.length]? = some x := by simp
  obtain ⟨x1, x2, x3⟩ := hW.at h W.length x hx
  have x4 := sv_le h x1 x2
  obtain ⟨n, a⟩ := x
  have x1 : n ≤ l.length := x1
  have x2 : Vs l n n a := x2
  have x3 : sv l n a = W.length := x3
  have x4 : sv l n a ≤ sx l l.length := x4
  have hag : Agr l n a ps := hag
  have hWl : (wkD l W).length = W.length := List.length_map _
  obtain ⟨ms, hks, hnd, hlt⟩ := hag.ks
  have hmsl : ms.length ≤ 1000 := by
    exact Nat.le_trans (nodup_lenN _ ms hnd hlt) hl
  by_cases hnl : n < l.length
  · have ei := List.getElem?_eq_getElem hnl
    have ix := fun k => ix_lnE (k := k) (sc_get ei)
    have hz : (wkD l W).length < sizeLine := small (by rw [hWl]; omega)
    have hks' : ps.map (fun x => x.1) = (ms.map fun k : Nat => (k : Int)).map PyData.int := by rw [List.map_map]; exact hks
    have hsn := hW.snoc (x := (n, a)) hnl
    have fin : ∀ (p' : Nat) (b : Act) (ps' : List (D × D)) (a5 a6 a7 : Sl), (p', b) = (nxt l n a).2 → Agr l p' b ps' → (a7 = .no ∨ ∃ d, a7 = .sh d) → k [.sh (.list (sc l)), .ow (.dict (RpD l l.length)), .ow (.dict ps'), .sh (.int (p' : Int)), .ow (.list (wkD l W ++ [.list [.tuple [.int (n : Int), .list (aD a)], .str (nxt l n a).1]])), a5, a6, a7, .no] := fun p' b ps' a5 a6 a7 e ag h7 => by
      have e1 : wkD l W ++ [.list [.tuple [.int (n : Int), .list (aD a)], .str (nxt l n a).1]] = wkD l (W ++ [(n, a)]) := by unfold wkD; rw [List.map_append]; rfl
      rw [e1]
      refine hk (sx l l.length - (W ++ [(n, a)]).length).toNat _ (by rw [List.length_append]; simp; have := sv_le h x1 x2; have h3 := sv_nxt h hnl x2; have h4 := (nxt_ok h hnl x2); have h5 := sv_le h h4.1 h4.2.1; omega) ⟨W ++ [(n, a)], (p', b), ps', a5, a6, a7, rfl, h7, by rw [e]; exact hsn, ag, rfl⟩
    rcases h7 with rfl | ⟨d7, rfl⟩
    all_goals
      simp [sc_length, hnl, ev_wLc, okW, wipeE, ev_sortDI]
      refine ⟨_, hks', smallE (by rw [List.length_map]; omega), fun ys hp hs => ?_⟩
      refine lcm_filt ys PyData.int (fun y => .tuple [.int y, .int ((agl a y.toNat).getD 0)]) (fun y => decide ((n : Int) ≤ y)) (by rw [hp.length_eq, List.length_map]; omega) (fun y acc k3 hy hz2 h1 h2 => ?_) ?_
      · obtain ⟨kk, hk1, rfl⟩ := List.mem_map.mp (hp.mem_iff.mp hy)
        simp [lcT, wipeE]
        by_cases z : n ≤ kk
        · rw [if_pos (by omega)]
          have hs1 := (dget_key hks kk).mpr hk1
          have hs2 := hag.ag kk z
          cases e : agl a kk with
          | none => rw [e] at hs2; rw [hs2] at hs1; cases hs1
          | some c =>
            rw [e] at hs2
            have hs2 : dget ps (.int (kk : Int)) = some (.int c) := hs2
            simp only [ev_ixd, hs2]
            simp
            refine ⟨hz2, ?_⟩
            have := h1 (by simpa using z)
            simpa [e] using this
        · rw [if_neg (by omega)]
          exact h2 (by simpa using z)
      · have eA : (ys.filter fun y => decide ((n : Int) ≤ y)).map (fun y => PyData.tuple [.int y, .int ((agl a y.toNat).getD 0)]) = aD a := by
          rw [act_list x2 hag hks hnd hp hs, List.map_map]
          unfold aD
          refine List.map_congr_left fun q hq => ?_
          show PyData.tuple [.int (q.1 : Int), .int ((agl a (q.1 : Int).toNat).getD 0)] = entD q
          rw [Int.toNat_natCast, agl_of x2 q hq]
          rfl
        rw [eA]
        clear eA hp hs
        simp [restE, ix]
        cases c : l[n] with
        | bar m =>
          rw [c] at ei ix
          have e1 : (nxt l n a) = (("play" : Str), n + 1, a) := by unfold nxt; rw [ei]
          have ag1 := hag.on h x2
          rw [cH_flat (bar_rep ei) x2] at ag1
          have := fun a5 a6 a7 => fin (n + 1) a ps a5 a6 a7 (by rw [e1]) ag1
          rw [e1] at this
          simp [It.d, sh_bar, sh_rep, eqv_str, br, bb, hz]
          exact this _ _ _ (by first | exact .inl rfl | exact .inr ⟨_, rfl⟩)
        | mark m =>
          rw [c] at ei ix
          have e1 : (nxt l n a) = (("pass" : Str), n + 1, a) := by unfold nxt; rw [ei]
          have ag1 := hag.on h x2
          rw [cH_flat (by unfold isRep; rw [ei]) x2] at ag1
          have := fun a5 a6 a7 => fin (n + 1) a ps a5 a6 a7 (by rw [e1]) ag1
          rw [e1] at this
          simp [It.d, sh_bar, sh_mark, sh_rep, eqv_str, mr, mb, hz]
          exact this _ _ _ (by first | exact .inl rfl | exact .inr ⟨_, rfl⟩)
        | rep m cc =>
          rw [c] at ei ix
          have hr : isRep l n = true := isRep_iff.mpr ⟨m, cc, ei⟩
          obtain ⟨s1, s2, n', c', f1, f2, f3⟩ := stt_rep h hr
          rw [ei] at f1; cases f1
          have hhere := hag.here h x2
          simp [It.d, sh_rep, eqv_str, rr, hhere]
          by_cases z : (cH n a).1 < cc
          · rw [if_pos z]
            have e1 : (nxt l n a) = (("jump" : Str), stt l n, (n, (cH n a).1 + 1) :: (cH n a).2) := by unfold nxt; rw [ei]; simp [z]
            simp [hz, hhere]
            have hpl : ps.length = ms.length := by have := congrArg List.length hks; simpa using this
            obtain ⟨ms1, k1, k2, k3⟩ := keys_put n (.int ((cH n a).1 + 1)) hks hnd
            have hlt1 : ∀ y ∈ ms1, y < l.length := fun y hy => ((k3 y).mp hy).elim (hlt y) fun e => by omega
            have hml1 := nodup_lenN _ ms1 k2 hlt1
            refine ⟨small (by omega), ?_⟩
            simp [ev_wLcO, slLO, okW, wipeE]
            have k1' : (dput ps (.int (n : Int)) (.int ((cH n a).1 + 1))).map (fun x => x.1) = ms1.map (fun k : Nat => PyData.int (k : Int)) := k1
            rw [k1']
            refine lcm_filt ms1 (fun k : Nat => .int (k : Int)) (fun k : Nat => .int (k : Int)) (fun y => decide (stt l n ≤ y) && decide (y < n)) (by omega) (fun y acc k4 hy hz2 h1 h2 => ?_) ?_
            · simp [lcT, wipeE, ev_ixd, RpD_get hnl hr]
              by_cases z1 : stt l n ≤ y
              · rw [if_pos (by omega)]
                by_cases z2 : y < n
                · rw [if_pos (by omega)]
                  exact ⟨hz2, h1 (by simp [z1, z2])⟩
                · rw [if_neg (by omega)]
                  exact h2 (by simp [z2])
              · rw [if_neg (by omega)]
                exact h2 (by simp [z1])
            · generalize hD : ms1.filter (fun y => decide (stt l n ≤ y) && decide (y < n)) = Dl
              have hDm : ∀ y, y ∈ Dl ↔ y ∈ ms1 ∧ stt l n ≤ y ∧ y < n := fun y => by rw [← hD, List.mem_filter]; simp
              have hDn : Dl.Nodup := by rw [← hD]; exact k2.filter _
              refine ⟨fun e he => by
                obtain ⟨y, _, rfl⟩ := List.mem_map.mp he
                exact True.intro, ?_⟩
              refine loop_inv (fun i Γ => ∃ (qs : List (D × D)) (a7 : Sl), Γ = [.sh (.list (sc l)), .ow (.dict (RpD l l.length)), .ow (.dict qs), .sh (.int (n : Int)), .ow (.list (wkD l W ++ [.list [.tuple [.int (n : Int), .list (aD a)], .str "jump"]])), .sh (.list (aD a)), .sh (.tuple [.str "repeat", .str m, .int cc]), a7, .no] ∧ (a7 = .no ∨ ∃ d, a7 = .sh d) ∧ (∃ ms : List Nat, qs.map (·.1) = ms.map (fun k : Nat => PyData.int (k : Int)) ∧ ms.Nodup ∧ ∀ k ∈ ms, k < l.length) ∧ ∀ y : Nat, dget qs (.int (y : Int)) = if y ∈ Dl.take i then none else dget (dput ps (.int (n : Int)) (.int ((cH n a).1 + 1))) (.int (y : Int))) ⟨_, _, rfl, by first | exact .inl rfl | exact .inr ⟨_, rfl⟩, ⟨ms1, k1, k2, hlt1⟩, fun y => by simp⟩ ?_ ?_
              · rintro i d Γ k5 hd ⟨qs, a7, rfl, h7, ⟨ms2, m1, m2, m3⟩, hq⟩ hk5
                rw [List.getElem?_map] at hd
                cases eD : Dl[i]? with
                | none => rw [eD] at hd; cases hd
                | some y =>
                  rw [eD] at hd
                  cases (Option.some.inj hd)
                  have hyD := List.mem_of_getElem? eD
                  have hnot : y ∉ Dl.take i := fun hm => by
                    have e2 : Dl.take (i + 1) = Dl.take i ++ [y] := by rw [List.take_succ, eD]; rfl
                    have := hDn.sublist (List.take_sublist (i + 1) Dl)
                    rw [e2] at this
                    exact (List.nodup_append.mp this).2.2 y hm y (by simp) rfl
                  have hy1 := (dget_key k1 y).mpr ((hDm y).mp hyD).1
                  have hqy := hq y
                  rw [if_neg hnot] at hqy
                  cases e : dget (dput ps (.int (n : Int)) (.int ((cH n a).1 + 1))) (.int (y : Int)) with
                  | none => rw [e] at hy1; cases hy1
                  | some vv =>
                    rw [e] at hqy
                    simp [hqy]
                    refine hk5 _ ⟨_, _, rfl, .inr ⟨_, rfl⟩, ⟨_, keys_drop y m1, m2.filter _, fun k hk => m3 k (List.mem_filter.mp hk).1⟩, fun w => ?_⟩
                    rw [dget_dropI, hq w, List.take_succ, eD]
                    by_cases zw : y = w
                    · subst zw; simp
                    · have : ¬ (y : Int) = (w : Int) := by omega
                      have zw2 : ¬ w = y := fun e => zw e.symm
                      rw [if_neg this]
                      simp [zw2]
              · rintro Γ ⟨qs, a7, rfl, h7, hks2, hq⟩
                rw [List.length_map, List.take_length] at hq
                simp [ev_ixd, RpD_get hnl hr]
                have ag1 := hag.on h x2
                have ag2 : Agr l (stt l n) ((n, (cH n a).1 + 1) :: (cH n a).2) qs := by
                  refine ⟨hks2, fun y hy => ?_⟩
                  rw [hq y, agl_cons]
                  by_cases y1 : y < n
                  · have yn : ¬ n = y := by omega
                    show _ = Option.map PyData.int (if n = y then _ else _)
                    rw [if_neg yn, agl_none fun q hq => by
                      have := Vs_ge (cH_ok h x2).2.1 q hq
                      omega]
                    by_cases y2 : y ∈ ms1
                    · rw [if_pos ((hDm y).mpr ⟨y2, hy, y1⟩)]; rfl
                    · rw [if_neg fun hm => y2 ((hDm y).mp hm).1]
                      have : ¬ (dget (dput ps (.int (n : Int)) (.int ((cH n a).1 + 1))) (.int (y : Int))).isSome = true := fun hs => y2 ((dget_key k1 y).mp hs)
                      simpa using this
                  · rw [if_neg fun hm => by have := ((hDm y).mp hm).2.2; omega, dget_putI]
                    by_cases y2 : n = y
                    · subst y2; simp
                    · rw [if_neg (by omega), if_neg y2]
                      exact ag1.ag y (by omega)
                have := fin (stt l n) ((n, (cH n a).1 + 1) :: (cH n a).2) qs (.sh (.list (aD a))) (.sh (.tuple [.str "repeat", .str m, .int cc])) a7 (by rw [e1]) ag2 h7
                rw [e1] at this
                exact this

          · rw [if_neg z]
            have e1 : (nxt l n a) = (("continue" : Str), n + 1, (cH n a).2) := by unfold nxt; rw [ei]; simp [z]
            have ag1 := hag.on h x2
            have := fun a5 a6 a7 => fin (n + 1) (cH n a).2 ps a5 a6 a7 (by rw [e1]) ag1
            rw [e1] at this
            simp [hz]
            exact this _ _ _ (by first | exact .inl rfl | exact .inr ⟨_, rfl⟩)
  · have hne : n = l.length := by omega
    subst hne
    have ha := Vs_end x2
    subst ha
    simp [sc_length]
    rcases h7 with rfl | ⟨d7, rfl⟩
    all_goals
      refine ⟨smallE (by rw [hWl]; omega), ?_⟩
      exact q W hW
end SC

set_option Elab.async false
set_option linter.all false
set_option maxRecDepth 100000
set_option pp.maxSteps 600
namespace SC
open PySem L2 VL
theorem natF {n : Nat} (h : n ≤ 1000000) : Fit 0 (.int (n : Int)) := fit_int (by
  have p1 : 10 ^ 30 ≤ bigI := by unfold bigI; decide +kernel
  omega)
theorem intF {c : Int} (h : c.natAbs < 2 ^ 32) : Fit 0 (.int c) := fit_int (by
  have p1 : 10 ^ 30 ≤ bigI := by unfold bigI; decide +kernel
  omega)
theorem aD_fit {l : List It} (h : ok [] l) (hl : l.length ≤ 290) : ∀ {a : Act} {ins m : Nat}, Vs l ins m a → m ≤ l.length → FitAll (3 * a.length) (aD a) ∧ PyData.depthAll (aD a) ≤ 1
  | [], _, _, _, _ => ⟨FitAll.nil, by simp [aD, PyData.depthAll]⟩
  | q :: a, ins, m, ⟨⟨r1, r2, r3, r4, r5⟩, v2⟩, hm => by
    obtain ⟨nm, cc, e⟩ := isRep_iff.mp r1
    have hq := (List.getElem?_eq_some_iff.mp e).1
    obtain ⟨i1, i2⟩ := aD_fit h hl v2 (by omega)
    have hc := ok_count h e
    have hcof : cof l q.1 = cc := by simp [cof, e]
    have f1 := natF (n := q.1) (by omega)
    have f2 := intF (c := q.2) (by omega)
    have fe : Fit 2 (entD q) := (FitAll.cons f1 (by simp [PyData.depth]) (FitAll.cons f2 (by simp [PyData.depth]) FitAll.nil)).tuple
    have de : (entD q).depth = 1 := by simp [entD, PyData.depth, PyData.depthAll]
    refine ⟨?_, ?_⟩
    · show FitAll _ (entD q :: aD a)
      exact (FitAll.cons fe (by omega) i1).mono (by rw [List.length_cons]; omega)
    · show PyData.depthAll (entD q :: aD a) ≤ 1
      simp only [PyData.depthAll]
      omega
theorem st_fit {l : List It} (h : ok [] l) (hl : l.length ≤ 290) {p : Nat} {a : Act} (hp : p ≤ l.length) (v : Vs l p p a) : Fit (900) (stD p a) ∧ (stD p a).depth ≤ 3 := by
  obtain ⟨i1, i2⟩ := aD_fit h hl v hp
  have hal := Vs_len v hp
  have f1 := natF (n := p) (by omega)
  exact ⟨((FitAll.cons f1 (by simp [PyData.depth]) (FitAll.cons i1.list (by simp only [PyData.depth]; omega) FitAll.nil)).tuple).mono (by omega), by simp only [stD, PyData.depth, PyData.depthAll]; omega⟩
structure NoSt (l : List It) (x : D) : Prop where
  b : BadSt l x
  f : Fit 900 x
  d : x.depth ≤ 3
theorem f0 : Fit 9 (.int 0) ∧ (PyData.int 0).depth ≤ 2 := ⟨(natF (n := 0) (by decide)).mono (by decide), by simp [PyData.depth]⟩
end SC

set_option Elab.async false
set_option linter.all false
set_option maxRecDepth 100000
namespace VL
open PySem L2
def wgLst (n : Nat) (b : WGs) : WG := fun d Γ k => match d with
  | .list ds => ds.length = n ∧ b ds Γ k
  | _ => False
section
variable {X : Cx} {G : Gb} {es : List Expr} {gs : TGs} {wgs : WGs} {pos : Pos}
theorem simg_lst {n : Nat} {gs : TGs} {b : WGs} (hb : SimGs G gs b) : SimG G (gLst G.K n gs) (wgLst n b) := by
  intro C Hi σ H Γ v d Q Qd c r hw h
  cases r with
  | lst s r =>
    obtain ⟨hl, hw⟩ := hw
    exact ⟨_, _, rfl, SqL.of (c.imm _ _ s), by rw [r.length]; exact hl, hb C Hi σ H Γ _ _ _ _ c r hw h⟩
  | _ => exact hw.elim
theorem dg_lst {k n : Nat} (hK : X.K = G.K) (hc : X.calm = true) (h : DGs X G es gs wgs) (h1 : (assignEach es X.env).length = n := by rfl) (h2 : (assignEach es X.env).findIdx? (·.1) = none := by rfl) : DG X G (.Tuple es k pos) (gLst G.K n gs) (wgLst n wgs) :=
  ⟨by rw [← hK]; exact pg_lst hc h.pe h1 h2, simg_lst h.sim⟩
end
@[simp ↓] theorem ev_wgLst (n : Nat) (b : WGs) (ds : List D) (Γ : Ev) (k : Ev → Prop) : wgLst n b (.list ds) Γ k = (ds.length = n ∧ b ds Γ k) := rfl
end VL

set_option Elab.async false
set_option linter.all false
set_option maxRecDepth 100000
set_option pp.maxSteps 600
set_option maxHeartbeats 400000
namespace K05
open PySem L2 VL SC
abbrev fs_law_same : FS := fsRec_law_same 6
theorem st_rp {l : List SC.It} (h : ok [] l) (hl : l.length ≤ 290) {p : Nat} {a : SC.Act} (hp : p ≤ l.length) (v : Vs l p p a) {k : VL.R → Prop} (q : k (.sh (.str (stD p a).shown))) : oReprB (stD p a) k := by
  obtain ⟨f, hd⟩ := st_fit h hl hp v
  exact ⟨f.sh, by omega, fit_shown f (by decide), q⟩
theorem sc_rp {l : List SC.It} (h : ok [] l) (hl : l.length ≤ 290) {k : VL.R → Prop} (q : k (.sh (.str (PyData.list (sc l)).shown))) : oReprB (.list (sc l)) k := by
  obtain ⟨f, dp⟩ := fit_items (ok_shows h)
  exact ⟨f.list.sh, by simp only [PyData.depth]; omega, fit_shown f.list (by omega), q⟩
def dueD (l : List SC.It) (p : Nat) (a : SC.Act) : D := if p = l.length then .none else nxD l p a
theorem nxR_false (l : List SC.It) (p : Nat) (a : SC.Act) : nxR false l p a = .sh (dueD l p a) := by
  unfold nxR dueD
  split <;> rfl
theorem pvR_false (l : List SC.It) (p : Nat) (a : SC.Act) : pvR false l p a = .sh (prvD l p a) := by
  unfold pvR prvD
  cases prv l p a <;> rfl
theorem SameT_none : ∀ n, SameT (n + 1) .none := fun n => .inl True.intro
theorem SameT_up : ∀ {n : Nat} {d : D}, SameT n d → SameT (n + 1) d
  | 0, d, h => h.elim
  | n + 1, d, h => by
    rcases h with h | ⟨xs, e, h1, h2⟩
    · exact .inl h
    · exact .inr ⟨xs, e, h1, fun x hx => SameT_up (h2 x hx)⟩
theorem ev_at (l : List SC.It) (p : Nat) (a : SC.Act) : atomD (.str (nxt l p a).1) := by
  have ss : atomD (.str "play") ∧ atomD (.str "pass") ∧ atomD (.str "jump") ∧ atomD (.str "continue") := by
    refine ⟨?_, ?_, ?_, ?_⟩ <;> (show _ = _; decide +kernel)
  unfold nxt
  split
  · exact ss.1
  · exact ss.2.1
  · split
    · exact ss.2.2.1
    · exact ss.2.2.2
  · exact ss.2.2.2
theorem same_due {l : List SC.It} (ho : ok [] l) (hl : l.length ≤ 290) {p : Nat} {a : SC.Act} (hp : p ≤ l.length) (v : Vs l p p a) : SameT 6 (.list [dueD l p a, prvD l p a]) := by
  have h1 : SameT 5 (dueD l p a) := by
    unfold dueD
    by_cases z : p = l.length
    · rw [if_pos z]; exact SameT_none 4
    · rw [if_neg z]
      obtain ⟨h1, v1, _⟩ := nxt_ok ho (by omega) v
      have := Vs_len v1 h1
      refine .inr ⟨_, .inr rfl, by simp, fun x hx => ?_⟩
      simp only [List.mem_cons, List.not_mem_nil, or_false] at hx
      rcases hx with rfl | rfl
      · exact .inl (ev_at l p a)
      · exact same_st _ _ (by omega)
  have h2 : SameT 5 (prvD l p a) := by
    unfold prvD
    cases e : prv l p a with
    | none => exact SameT_none 4
    | some x =>
      obtain ⟨p1, a1⟩ := x
      obtain ⟨b1, b2, _⟩ := nxt_prv ho hp v e
      have := Vs_len b2 (by omega)
      exact SameT_up (same_st p1 a1 (by omega))
  refine .inr ⟨_, .inl rfl, by simp, fun x hx => ?_⟩
  simp only [List.mem_cons, List.not_mem_nil, or_false] at hx
  rcases hx with rfl | rfl
  · exact h1
  · exact h2
def wB9 : WS := wSeq (wSet 15 (wLst (wCons (wCallKw fs_next_stepD [1, 0] 2 (wCons (wVar 8) (wCons (wVar 3) (wNil)))) (wCons (wCallKw fs_previous_stateD [1, 0] 2 (wCons (wVar 8) (wCons (wVar 3) (wNil)))) (wNil))))) (wIfS (wNot (wT (wFz5 (wCall fs_law_same [] (wCons (wVar 15) (wCons (wLst (wCons (wVar 11) (wCons (wVar 12) (wNil)))) (wNil))))))) (wRet (wC (.bool false))) (wNext))
def wB8 : WS := wSeq (wIfS (wOr (wT (wOp oNeS (wCB (o1 oReprB) (wCons (wVar 8) (wNil))) (wVar 10))) (wT (wOp oNeS (wCB (o1 oReprB) (wCons (wVar 3) (wNil))) (wVar 5)))) (wRet (wC (.bool false))) (wNext)) wB9
def wB6 : WS := wSeq (wIfS (wT (wNotNV 13)) (wDrop (wNap 2 13)) (wNext)) (wSeq (wIfS (wT (wNotNV 14)) (wDrop (wNap 1 14)) (wNext)) wB8)
def wB5 : WS := wSeq (wIfS (wOr (wNot (wT (wFz5 (wCall fs_law_same [] (wCons (wLst (wCons (wVar 13) (wCons (wVar 14) (wNil)))) (wCons (wLst (wCons (wVar 11) (wCons (wVar 12) (wNil)))) (wNil))))))) (wT (wOp oNeS (wCB (o1 oReprB) (wCons (wVar 8) (wNil))) (wVar 10)))) (wRet (wC (.bool false))) (wNext)) wB6
def wB4 : WS := wSeq (wPar [13, 14] (wsCons (wCall fs_next_stepD [] (wCons (wVar 3) (wCons (wVar 8) (wNil)))) (wsCons (wCall fs_previous_stateD [] (wCons (wVar 3) (wCons (wVar 8) (wNil)))) (wsNil)))) wB5
def wB0 : WS := wSeq (wAsg (wOp oIx (wVar 4) (wVar 7)) (wgLst 2 (wgCons (wgName 8) (wgCons (wgName 9) (wgNil))))) (wSeq (wSet 10 (wCB (o1 oReprB) (wCons (wVar 8) (wNil)))) (wSeq (wSet 11 (wIf (wT (wOp oIsN (wVar 9) (wC .none))) (wC .none) (wTup (wCons (wVar 9) (wCons (wOp oIx (wOp oIx (wVar 4) (wOp oAdd (wVar 7) (wC (.int 1)))) (wC (.int 0))) (wNil)))))) (wSeq (wSet 12 (wIf (wT (wOp (oIB fun i j => decide (j < i)) (wVar 7) (wC (.int 0)))) (wOp oIx (wOp oIx (wVar 4) (wOp (oII (fun _ _ => True) (· - ·)) (wVar 7) (wC (.int 1)))) (wC (.int 0))) (wC .none))) wB4)))
def w_law : WS := wSeq (wDeck 0 1) (wSeq (wFor (wiR1 (wCons (wC (.int 10)) (wNil))) (wgName 2) (wSeq (wSet 3 (wCallIo fs_law_small 1 [] (wCons (wC (.int 300)) (wNil)))) (wSeq (wSet 4 (wCall fs_law_walkK [] (wCons (wVar 3) (wNil)))) (wSeq (wSet 5 (wCB (o1 oReprB) (wCons (wVar 3) (wNil)))) (wSeq (wSet 6 (wOp oAdd (wOp oAdd (wListR (wCB (o2 oMin) (wCons (wC (.int 12)) (wCons (wCB (o1 oLen) (wCons (wVar 4) (wNil))) (wNil))))) (wLc [16] (wiR1 (wCons (wC (.int 30)) (wNil))) (wgName 16) (wYes) (wCallIo fs_law_drawX 1 [] (wCons (wCB (o1 oLen) (wCons (wVar 4) (wNil))) (wNil))))) (wLst (wCons (wOp (oII (fun _ _ => True) (· - ·)) (wCB (o1 oLen) (wCons (wVar 4) (wNil))) (wC (.int 1))) (wNil))))) (wFor (wiL (wVar 6)) (wgName 7) wB0)))))) (wRet (wAndV (wOp oIsN (wCall fs_next_stepD [] (wCons (wLst (wNil)) (wCons (wTup (wCons (wC (.int 0)) (wCons (wLst (wNil)) (wNil)))) (wNil)))) (wC .none)) (wOp oIsN (wCall fs_previous_stateD [] (wCons (wLst (wNil)) (wCons (wTup (wCons (wC (.int 0)) (wCons (wLst (wNil)) (wNil)))) (wNil)))) (wC .none)))))
section
variable {s0 s2 s4 s6 s7 s9 s13 s14 s15 s16 : Sl} {l : List SC.It} {c : Int} {p : Nat} {a : SC.Act} {Dn : VL.WD} {X : XW}
def Fr (l : List SC.It) (p : Nat) (a : SC.Act) (s0 s1 s2 s4 s6 s7 s9 s13 s14 s15 s16 : Sl) : Ev := [s0, s1, s2, .sh (.list (sc l)), s4, .sh (.str (PyData.list (sc l)).shown), s6, s7, .sh (stD p a), s9, .sh (.str (stD p a).shown), .sh (dueD l p a), .sh (prvD l p a), s13, s14, s15, s16]
theorem b9_ok (ho : ok [] l) (hl : l.length ≤ 290) (hp : p ≤ l.length) (v : Vs l p p a)
    (q : ∀ x15, Dn.nx (Fr l p a s0 (.op 11 (.int c)) s2 s4 s6 s7 s9 s13 s14 x15 s16)) : wB9 (Fr l p a s0 (.op 11 (.int c)) s2 s4 s6 s7 s9 s13 s14 s15 s16) Dn X := by
  have hs := same_due ho hl hp v
  unfold Fr at q ⊢
  simp [wB9]
  refine Or.inl ⟨rfl, l, p, a, rfl, ho, by omega, hp, v, ?_⟩
  rw [nxR_false]
  simp
  refine Or.inl ⟨rfl, l, p, a, rfl, ho, by omega, hp, v, ?_⟩
  rw [pvR_false]
  simp
  refine ⟨rfl, _, rfl, hs, ?_⟩
  simp
  exact q _
theorem b8_ok (ho : ok [] l) (hl : l.length ≤ 290) (hp : p ≤ l.length) (v : Vs l p p a)
    (q : ∀ x15, Dn.nx (Fr l p a s0 (.op 11 (.int c)) s2 s4 s6 s7 s9 s13 s14 x15 s16)) : wB8 (Fr l p a s0 (.op 11 (.int c)) s2 s4 s6 s7 s9 s13 s14 s15 s16) Dn X := by
  have h9 := b9_ok (s0 := s0) (s2 := s2) (s4 := s4) (s6 := s6) (s7 := s7) (s9 := s9) (s13 := s13) (s14 := s14) (s15 := s15) (s16 := s16) (c := c) (Dn := Dn) (X := X) ho hl hp v q
  unfold Fr at h9 ⊢
  simp [wB8]
  refine st_rp ho hl hp v ?_
  simp [oNeS]
  refine sc_rp ho hl ?_
  simp [oNeS]
  exact h9
theorem b6_ok (ho : ok [] l) (hl : l.length ≤ 290) (hp : p ≤ l.length) (v : Vs l p p a)
    (h13 : s13 = .sh .none ∨ ∃ (e : Str) (p1 : Nat) (a1 : SC.Act), a1.length ≤ 1000 ∧ s13 = .op 15 (.tuple [.str e, stD p1 a1]))
    (h14 : s14 = .sh .none ∨ ∃ (p1 : Nat) (a1 : SC.Act), a1.length ≤ 1000 ∧ s14 = .op 15 (stD p1 a1))
    (q : ∀ x13 x14 x15, Dn.nx (Fr l p a s0 (.op 11 (.int c)) s2 s4 s6 s7 s9 x13 x14 x15 s16)) : wB6 (Fr l p a s0 (.op 11 (.int c)) s2 s4 s6 s7 s9 s13 s14 s15 s16) Dn X := by
  have h8 := fun x13 x14 => b8_ok (s0 := s0) (s2 := s2) (s4 := s4) (s6 := s6) (s7 := s7) (s9 := s9) (s13 := x13) (s14 := x14) (s15 := s15) (s16 := s16) (c := c) (Dn := Dn) (X := X) ho hl hp v (q x13 x14)
  unfold Fr at h8 ⊢
  rcases h13 with rfl | ⟨e, p1, a1, ha1, rfl⟩ <;> rcases h14 with rfl | ⟨p2, a2, ha2, rfl⟩
  · simp [wB6, isNone]
    exact h8 _ _
  · simp [wB6, isNone, ev_wNap, slNap, stD, pathL]
    exact ⟨small (by rw [aD_length]; omega), h8 _ _⟩
  · simp [wB6, isNone, ev_wNap, slNap, stD, pathL]
    exact ⟨small (by rw [aD_length]; omega), h8 _ _⟩
  · simp [wB6, isNone, ev_wNap, slNap, stD, pathL]
    exact ⟨small (by rw [aD_length]; omega), small (by rw [aD_length]; omega), h8 _ _⟩
theorem b5_ok (ho : ok [] l) (hl : l.length ≤ 290) (hp : p ≤ l.length) (v : Vs l p p a)
    (e13 : shS5 s13 = .sh (dueD l p a)) (e14 : shS5 s14 = .sh (prvD l p a))
    (h13 : s13 = .sh .none ∨ ∃ (e : Str) (p1 : Nat) (a1 : SC.Act), a1.length ≤ 1000 ∧ s13 = .op 15 (.tuple [.str e, stD p1 a1]))
    (h14 : s14 = .sh .none ∨ ∃ (p1 : Nat) (a1 : SC.Act), a1.length ≤ 1000 ∧ s14 = .op 15 (stD p1 a1))
    (q : ∀ x13 x14 x15, Dn.nx (Fr l p a s0 (.op 11 (.int c)) s2 s4 s6 s7 s9 x13 x14 x15 s16)) : wB5 (Fr l p a s0 (.op 11 (.int c)) s2 s4 s6 s7 s9 s13 s14 s15 s16) Dn X := by
  have hs := same_due ho hl hp v
  have h6 := b6_ok (s0 := s0) (s2 := s2) (s4 := s4) (s6 := s6) (s7 := s7) (s9 := s9) (s13 := s13) (s14 := s14) (s15 := s15) (s16 := s16) (c := c) (Dn := Dn) (X := X) ho hl hp v h13 h14 q
  unfold Fr at h6 ⊢
  simp [wB5, e13, e14]
  refine ⟨rfl, _, rfl, hs, ?_⟩
  simp
  refine st_rp ho hl hp v ?_
  simp [oNeS]
  exact h6
end
def wkL (l : List SC.It) (W : List (Nat × SC.Act)) : List D := wkD l W ++ [.list [stD l.length [], .none]]
theorem wkL_at {l : List SC.It} {W : List (Nat × SC.Act)} (hW : WkOk l (W ++ [(l.length, [])])) {j p : Nat} {a : SC.Act} (h : (W ++ [(l.length, [])])[j]? = some (p, a)) : (wkL l W)[j]? = some (.list [stD p a, if p = l.length then .none else .str (nxt l p a).1]) ∧ (j < W.length ↔ p ≠ l.length) := by
  have lW : (wkD l W).length = W.length := List.length_map _
  have hj : j < W.length + 1 := by
    have := (List.getElem?_eq_some_iff.mp h).1
    simpa using this
  by_cases z : j < W.length
  · obtain ⟨y, hy⟩ : ∃ y, (W ++ [(l.length, [])])[j + 1]? = some y := ⟨_, List.getElem?_eq_getElem (by simp; omega)⟩
    obtain ⟨hpl, _⟩ := hW.st j _ _ h hy
    have hpl : p < l.length := hpl
    rw [List.getElem?_append_left z] at h
    unfold wkL
    rw [List.getElem?_append_left (by omega), if_neg (by omega)]
    unfold wkD
    rw [List.getElem?_map, h]
    exact ⟨rfl, fun _ => by omega, fun _ => z⟩
  · have e : j = W.length := by omega
    subst e
    rw [List.getElem?_append_right (Nat.le_refl _), Nat.sub_self] at h
    cases (Option.some.inj h)
    unfold wkL
    rw [List.getElem?_append_right (by omega), lW, Nat.sub_self, if_pos rfl]
    exact ⟨rfl, fun z' => absurd z' z, fun z' => absurd rfl z'⟩
theorem told_ok {l : List SC.It} (ho : ok [] l) (hl : l.length ≤ 290) {p : Nat} {a : SC.Act} (hp : p < l.length) (v : Vs l p p a) : (nxt l p a).2.2.length ≤ 1000 := by
  obtain ⟨h1, v1, _⟩ := nxt_ok ho hp v
  have := Vs_len v1 h1
  omega
section
variable {s0 s2 s6 s8 s9 s10 s11 s12 s13 s14 s15 s16 : Sl} {l : List SC.It} {W : List (Nat × SC.Act)} {c : Int} {j : Nat} {Dn : VL.WD} {X : XW}
theorem b4_ok {s4 s7 s9 : Sl} {p : Nat} {a : SC.Act} (ho : ok [] l) (hl : l.length ≤ 290) (hp : p ≤ l.length) (v : Vs l p p a)
    (hpv : (pvR true l p a = .sh .none ∧ prvD l p a = .none) ∨ ∃ p1 a1, pvR true l p a = .op 15 (stD p1 a1) ∧ prvD l p a = stD p1 a1 ∧ a1.length ≤ 1000)
    (q : ∀ x13 x14 x15, Dn.nx (Fr l p a s0 (.op 11 (.int c)) s2 s4 s6 s7 s9 x13 x14 x15 s16)) : wB4 (Fr l p a s0 (.op 11 (.int c)) s2 s4 s6 s7 s9 s13 s14 s15 s16) Dn X := by
  have fin : ∀ s13 s14, shS5 s13 = .sh (dueD l p a) → shS5 s14 = .sh (prvD l p a) → (s13 = .sh .none ∨ ∃ (e : Str) (p1 : Nat) (a1 : SC.Act), a1.length ≤ 1000 ∧ s13 = .op 15 (.tuple [.str e, stD p1 a1])) → (s14 = .sh .none ∨ ∃ (p1 : Nat) (a1 : SC.Act), a1.length ≤ 1000 ∧ s14 = .op 15 (stD p1 a1)) → wB5 (Fr l p a s0 (.op 11 (.int c)) s2 s4 s6 s7 s9 s13 s14 s15 s16) Dn X := fun s13 s14 e13 e14 h13 h14 => b5_ok ho hl hp v e13 e14 h13 h14 q
  have hn : (nxR true l p a = .sh .none ∧ dueD l p a = .none) ∨ (nxR true l p a = .op 15 (nxD l p a) ∧ dueD l p a = nxD l p a ∧ (nxt l p a).2.2.length ≤ 1000) := by
    unfold nxR dueD
    by_cases z : p = l.length
    · rw [if_pos z, if_pos z]; exact .inl ⟨rfl, rfl⟩
    · rw [if_neg z, if_neg z]; exact .inr ⟨rfl, rfl, told_ok ho hl (by omega) v⟩
  unfold Fr at fin ⊢
  simp [wB4]
  refine Or.inr ⟨rfl, l, p, a, rfl, ho, by omega, hp, v, ?_⟩
  rcases hn with ⟨n1, n2⟩ | ⟨n1, n2, n3⟩
  · rw [n1]
    simp
    refine Or.inr ⟨rfl, l, p, a, rfl, ho, by omega, hp, v, ?_⟩
    rcases hpv with ⟨v1, v2⟩ | ⟨p1, a1, v1, v2, v3⟩
    · rw [v1]
      simp
      exact fin _ _ (by rw [n2]; rfl) (by rw [v2]; rfl) (.inl rfl) (.inl rfl)
    · rw [v1]
      simp
      exact fin _ _ (by rw [n2]; rfl) (by rw [v2]; rfl) (.inl rfl) (.inr ⟨p1, a1, v3, rfl⟩)
  · rw [n1]
    simp
    refine Or.inr ⟨rfl, l, p, a, rfl, ho, by omega, hp, v, ?_⟩
    rcases hpv with ⟨v1, v2⟩ | ⟨p1, a1, v1, v2, v3⟩
    · rw [v1]
      simp
      exact fin _ _ (by rw [n2]; rfl) (by rw [v2]; rfl) (.inr ⟨_, _, _, n3, rfl⟩) (.inl rfl)
    · rw [v1]
      simp
      exact fin _ _ (by rw [n2]; rfl) (by rw [v2]; rfl) (.inr ⟨_, _, _, n3, rfl⟩) (.inr ⟨p1, a1, v3, rfl⟩)
theorem b0_ok (ho : ok [] l) (hl : l.length ≤ 290) (hW : WkOk l (W ++ [(l.length, [])])) (hj : j < W.length + 1)
    (q : ∀ x8 x9 x10 x11 x12 x13 x14 x15, Dn.nx [s0, .op 11 (.int c), s2, .sh (.list (sc l)), .ow (.list (wkL l W)), .sh (.str (PyData.list (sc l)).shown), s6, .sh (.int (j : Int)), x8, x9, x10, x11, x12, x13, x14, x15, s16]) :
    wB0 [s0, .op 11 (.int c), s2, .sh (.list (sc l)), .ow (.list (wkL l W)), .sh (.str (PyData.list (sc l)).shown), s6, .sh (.int (j : Int)), s8, s9, s10, s11, s12, s13, s14, s15, s16] Dn X := by
  obtain ⟨⟨p, a⟩, h⟩ : ∃ x, (W ++ [(l.length, [])])[j]? = some x := ⟨_, List.getElem?_eq_getElem (by simpa using hj)⟩
  obtain ⟨hp, v, _⟩ := hW.at ho j _ h
  have hp : p ≤ l.length := hp
  have v : Vs l p p a := v
  obtain ⟨e0, e1⟩ := wkL_at hW h
  have ix := fun k => ix_lnE (k := k) e0
  -- the place before
  have hb : (j = 0 ∧ prv l p a = none) ∨ (0 < j ∧ ∃ p1 a1 ev, (∀ k, oIx (.list (wkL l W)) (.int ((j : Int) - 1)) k = k (.sh (.list [stD p1 a1, ev]))) ∧ prv l p a = some (p1, a1) ∧ a1.length ≤ 1000) := by
    by_cases z : j = 0
    · subst z
      rw [hW.h0] at h
      cases h
      refine .inl ⟨rfl, ?_⟩
      exact (prv_none ho v).mpr ⟨rfl, rfl⟩
    · obtain ⟨⟨p1, a1⟩, h1⟩ : ∃ x, (W ++ [(l.length, [])])[j - 1]? = some x := ⟨_, List.getElem?_eq_getElem (by simp; omega)⟩
      obtain ⟨hp1, v1, _⟩ := hW.at ho (j - 1) _ h1
      obtain ⟨f0, _⟩ := wkL_at hW h1
      obtain ⟨g1, g2⟩ := hW.st (j - 1) _ (p, a) h1 (by rw [show j - 1 + 1 = j by omega]; exact h)
      have g1 : p1 < l.length := g1
      have v1 : Vs l p1 p1 a1 := v1
      have g2 : (p, a) = (nxt l p1 a1).2 := g2
      have pn := prv_nxt ho g1 v1
      rw [← g2] at pn
      have f1 := fun k => ix_lnE (k := k) f0
      rw [show ((j - 1 : Nat) : Int) = (j : Int) - 1 by omega] at f1
      exact .inr ⟨by omega, p1, a1, _, f1, pn, by have := Vs_len v1 (by omega); omega⟩
  -- the place behind
  have ha : p < l.length → ∃ ev, ∀ k, oIx (.list (wkL l W)) (.int ((j : Int) + 1)) k = k (.sh (.list [stD (nxt l p a).2.1 (nxt l p a).2.2, ev])) := fun z => by
    have hjW : j < W.length := e1.mpr (by omega)
    obtain ⟨y, h1⟩ : ∃ x, (W ++ [(l.length, [])])[j + 1]? = some x := ⟨_, List.getElem?_eq_getElem (by simp; omega)⟩
    obtain ⟨g1, g2⟩ := hW.st j _ y h h1
    have g2 : y = (nxt l p a).2 := g2
    subst g2
    obtain ⟨f0, _⟩ := wkL_at hW h1
    have f1 := fun k => ix_lnE (k := k) f0
    rw [Int.natCast_add] at f1
    exact ⟨_, f1⟩
  have hpv : (pvR true l p a = .sh .none ∧ prvD l p a = .none) ∨ ∃ p1 a1, pvR true l p a = .op 15 (stD p1 a1) ∧ prvD l p a = stD p1 a1 ∧ a1.length ≤ 1000 := by
    unfold pvR prvD
    rcases hb with ⟨_, e⟩ | ⟨_, p1, a1, _, _, e, h⟩
    · rw [e]; exact .inl ⟨rfl, rfl⟩
    · rw [e]; exact .inr ⟨p1, a1, rfl, rfl, h⟩
  simp [wB0, ix]
  refine st_rp ho hl hp v ?_
  have fin : ∀ s9, wB4 (Fr l p a s0 (.op 11 (.int c)) s2 (.ow (.list (wkL l W))) s6 (.sh (.int (j : Int))) s9 s13 s14 s15 s16) Dn X := fun s9 => b4_ok ho hl hp v hpv fun x13 x14 x15 => q _ _ _ _ _ _ _ _
  have pvE : prvD l p a = (match prv l p a with | none => .none | some x => stD x.1 x.2) := rfl
  unfold Fr dueD at fin
  by_cases z : p = l.length
  · rw [if_pos z] at fin ⊢
    simp [isNone]
    rcases hb with ⟨rfl, e⟩ | ⟨hj0, p1, a1, ev, ixp, e, h1⟩
    · rw [e] at pvE
      rw [pvE] at fin
      exact fin _
    · rw [e] at pvE
      rw [pvE] at fin
      rw [if_pos hj0, ixp]
      exact fin _
  · rw [if_neg z] at fin ⊢
    obtain ⟨ev2, ixa⟩ := ha (by omega)
    simp [isNone]
    rw [ixa]
    simp
    rcases hb with ⟨rfl, e⟩ | ⟨hj0, p1, a1, ev, ixp, e, h1⟩
    · rw [e] at pvE
      rw [pvE] at fin
      exact fin _
    · rw [e] at pvE
      rw [pvE] at fin
      rw [if_pos hj0, ixp]
      exact fin _
end
theorem fv_law : FnV fsLaw 17 w_law := by
  rintro io ds Q X ⟨ns, hn, rfl, rfl, q⟩
  show w_law [.op 0 (.list (ns.map .int)), .no, .no, .no, .no, .no, .no, .no, .no, .no, .no, .no, .no, .no, .no, .no, .no] _ _
  simp [w_law, ev_wFor]
  refine ⟨⟨ns, rfl, hn⟩, ?_⟩
  refine loop_inv (fun i Γ => ∃ (c : Int) (a2 a3 a4 a5 a6 a7 a8 a9 a10 a11 a12 a13 a14 a15 : Sl), Γ = [.op 0 (.list (ns.map .int)), .op 11 (.int c), a2, a3, a4, a5, a6, a7, a8, a9, a10, a11, a12, a13, a14, a15, .no] ∧ 0 ≤ c ∧ c ≤ 20000 * i) ⟨0, _, _, _, _, _, _, _, _, _, _, _, _, _, _, rfl, by omega, by omega⟩ ?_ ?_
  · rintro i x Γ k hx ⟨c, a2, a3, a4, a5, a6, a7, a8, a9, a10, a11, a12, a13, a14, a15, rfl, c0, c1⟩ hk
    have hi := (List.getElem?_eq_some_iff.mp hx).1
    simp [rangeD] at hi
    simp
    refine ⟨c, 300, rfl, c0, by omega, rfl, by decide, fun l c' ho hl htl hsx d0 d1 => ?_⟩
    simp [SameIo]
    refine ⟨rfl, l, rfl, ho, by omega, by omega, fun W hW => ?_⟩
    have hWl : (wkL l W).length = W.length + 1 := by unfold wkL wkD; simp
    have hWb : (W.length : Int) ≤ 2000 := by
      obtain ⟨_, _, h3⟩ := hW.at ho W.length (l.length, []) (by rw [List.getElem?_append_right (Nat.le_refl _), Nat.sub_self]; rfl)
      have h3 : sv l l.length [] = (W.length : Int) := h3
      unfold sv at h3
      rw [aw_nil] at h3
      omega
    have hb0 : ∀ (s0 s2 s6 s8 s9 s10 s11 s12 s13 s14 s15 s16 : Sl) (c : Int) (j : Nat) (Dn : VL.WD) (X : XW), j < W.length + 1 → (∀ x8 x9 x10 x11 x12 x13 x14 x15, Dn.nx [s0, .op 11 (.int c), s2, .sh (.list (sc l)), .ow (.list (wkL l W)), .sh (.str (PyData.list (sc l)).shown), s6, .sh (.int (j : Int)), x8, x9, x10, x11, x12, x13, x14, x15, s16]) →
        wB0 [s0, .op 11 (.int c), s2, .sh (.list (sc l)), .ow (.list (wkL l W)), .sh (.str (PyData.list (sc l)).shown), s6, .sh (.int (j : Int)), s8, s9, s10, s11, s12, s13, s14, s15, s16] Dn X := fun s0 s2 s6 s8 s9 s10 s11 s12 s13 s14 s15 s16 c j Dn X hj q => b0_ok ho (by omega) hW hj q
    have ew : wkD l W ++ [.list [stD l.length [], .none]] = wkL l W := rfl
    rw [ew]
    generalize hwk : wkL l W = wk at hWl hb0
    simp
    refine sc_rp ho (by omega) ?_
    generalize (PyData.list (sc l)).shown = T at hb0
    simp [ev_wLc, okW, wipeE]
    obtain ⟨m, hm, hm1, hm2⟩ : ∃ m : Nat, (if (wk.length : Int) < 12 then (wk.length : Int) else 12) = (m : Int) ∧ m ≤ wk.length ∧ m ≤ 12 := by
      by_cases z : (wk.length : Int) < 12
      · exact ⟨wk.length, if_pos z, Nat.le_refl _, by omega⟩
      · exact ⟨12, if_neg z, by omega, by omega⟩
    rw [hm]
    have hbig : ((wk.length : Int)).natAbs < 2 ^ 9000 := Nat.lt_of_lt_of_le (show _ < 2 ^ 11 by omega) (Nat.pow_le_pow_right (by decide) (by decide))
    obtain ⟨n, rfl⟩ : ∃ n : Nat, c' = (n : Int) := ⟨c'.toNat, by omega⟩
    refine ⟨by omega, by omega, ?_⟩
    refine lc_inv (fun i2 acc Γ => ∃ (n2 : Nat) (ms : List Int), Γ = [.op 0 (.list (ns.map .int)), .op 11 (.int (n2 : Int)), .sh x, .sh (.list (sc l)), .ow (.list wk), .sh (.str T), a6, a7, a8, a9, a10, a11, a12, a13, a14, a15, .no] ∧ n2 = n + i2 ∧ acc = ms.map .int ∧ ms.length = i2 ∧ ∀ x ∈ ms, 0 ≤ x ∧ x < (wk.length : Int)) ⟨n, [], rfl, rfl, rfl, rfl, fun x hx => nomatch hx⟩ ?_ ?_
    · rintro i2 xx acc Γ k3 hx2 ⟨n2, ms, rfl, hn2, rfl, hml, hms⟩ hk3
      have hi2 := (List.getElem?_eq_some_iff.mp hx2).1
      simp [rangeD] at hi2
      simp [lcT]
      refine ⟨n2, _, rfl, by omega, rfl, by omega, hbig, fun r r0 r1 => ?_⟩
      simp [wipeE]
      refine ⟨small (by omega), hk3 _ _ ⟨n2 + 1, ms ++ [r], rfl, by omega, by simp, by simp [hml], fun y hy => ?_⟩⟩
      rcases List.mem_append.mp hy with z | z
      · exact hms y z
      · have : y = r := by simpa using z
        subst this
        exact ⟨r0, r1⟩
    · rintro acc Γ ⟨n2, ms, rfl, hn2, rfl, hml, hms⟩
      simp [rangeD] at hml hn2
      simp [restE]
      refine ⟨smallE (by simp [rangeD]; omega), smallE (by simp [rangeD]; omega), ?_⟩
      refine loop_mem (fun Γ => ∃ (a7 a8 a9 a10 a11 a12 a13 a14 a15 s6 : Sl), Γ = [.op 0 (.list (ns.map .int)), .op 11 (.int (n2 : Int)), .sh x, .sh (.list (sc l)), .ow (.list wk), .sh (.str T), s6, a7, a8, a9, a10, a11, a12, a13, a14, a15, .no]) ⟨_, _, _, _, _, _, _, _, _, _, rfl⟩ ?_ ?_
      · rintro d Γ k4 hd ⟨b7, b8, b9, b10, b11, b12, b13, b14, b15, s6, rfl⟩ hk4
        obtain ⟨j, hj, rfl⟩ : ∃ j : Nat, j < W.length + 1 ∧ d = .int (j : Int) := by
          rcases List.mem_append.mp hd with z | z
          · obtain ⟨y, hy, rfl⟩ := List.mem_map.mp z
            have := List.mem_range.mp hy
            exact ⟨y, by omega, by simp⟩
          · rcases List.mem_append.mp z with z | z
            · obtain ⟨y, hy, rfl⟩ := List.mem_map.mp z
              have := hms y hy
              exact ⟨y.toNat, by omega, by rw [Int.toNat_of_nonneg this.1]⟩
            · have : d = .int ((wk.length : Int) - 1) := by simpa using z
              exact ⟨W.length, by omega, by rw [this]; congr 1; omega⟩
        simp
        exact hb0 _ _ _ _ _ _ _ _ _ _ _ _ _ j _ _ hj fun x8 x9 x10 x11 x12 x13 x14 x15 => hk4 _ ⟨_, _, _, _, _, _, _, _, _, _, rfl⟩
      · rintro Γ ⟨b7, b8, b9, b10, b11, b12, b13, b14, b15, s6, rfl⟩
        exact hk _ ⟨_, _, _, _, _, _, _, _, _, _, _, _, _, _, _, rfl, by omega, by omega⟩
  · rintro Γ ⟨c, a2, a3, a4, a5, a6, a7, a8, a9, a10, a11, a12, a13, a14, a15, rfl, c0, c1⟩
    have e0 : PyData.list [] = PyData.list (sc []) := rfl
    have e1 : nxR false [] 0 [] = .sh .none := rfl
    have e2 : pvR false [] 0 [] = .sh .none := rfl
    simp
    refine Or.inl ⟨rfl, [], 0, [], rfl, trivial, by simp, Nat.le_refl _, trivial, ?_⟩
    rw [e1]
    simp [isNone]
    refine Or.inl ⟨rfl, [], 0, [], rfl, trivial, by simp, Nat.le_refl _, trivial, ?_⟩
    rw [e2]
    simp [isNone]
    exact q _ rfl
end K05

set_option Elab.async false
set_option linter.all false
set_option maxRecDepth 100000
namespace VL
open PySem PySem.Spec PyProof.Rows L2
end VL
namespace VL
open PySem L2
end VL

set_option Elab.async false
set_option linter.all false
set_option maxRecDepth 100000
set_option maxHeartbeats 400000
namespace K05
open PySem L2 VL SC
def top (i : Nat) : Stmt := PySem.Challenge.pw_wornsigns_k05_steps_one_by_one.main.body.getD i (.Pass ⟨0, 0, 0, 0⟩)
abbrev s_law_deck : Stmt := top 31
abbrev N_law_deck : List Str := ["_law_script", "_law_pools", "_law_k", "_law_cell"]
theorem sc_law_deck : FnScope N_law_deck ["_law_script"] (defScope s_law_deck) := ⟨rfl, rfl, rfl, by decide +kernel, rfl, by decide +kernel, by decide +kernel⟩
abbrev s_law_draw : Stmt := top 32
abbrev N_law_draw : List Str := ["_law_deck_here", "_law_many", "_law_pool", "_law_found", "_law_mixed"]
theorem sc_law_draw : FnScope N_law_draw ["_law_deck_here", "_law_many"] (defScope s_law_draw) := ⟨rfl, rfl, rfl, by decide +kernel, rfl, by decide +kernel, by decide +kernel⟩
abbrev s_law_same : Stmt := top 40
abbrev N_law_same : List Str := ["_law_found", "_law_due", "_law_one", "_law_two"]
theorem sc_law_same : FnScope N_law_same ["_law_found", "_law_due"] (defScope s_law_same) := ⟨rfl, rfl, rfl, by decide +kernel, rfl, by decide +kernel, by decide +kernel⟩
abbrev s_law_mark_names : Stmt := top 33
abbrev N_law_mark_names : List Str := ["_law_found"]
theorem sc_law_mark_names : FnScope N_law_mark_names [] (defScope s_law_mark_names) := ⟨rfl, rfl, rfl, by decide +kernel, rfl, by decide +kernel, by decide +kernel⟩
abbrev s_law_items : Stmt := top 34
abbrev N_law_items : List Str := ["_law_deck_here", "_law_most", "_law_wide", "_law_found", "_law_marks_so_far", "_law_unused", "_law_k", "_law_way", "_law_often"]
theorem sc_law_items : FnScope N_law_items ["_law_deck_here", "_law_most", "_law_wide"] (defScope s_law_items) := ⟨rfl, rfl, rfl, by decide +kernel, rfl, by decide +kernel, by decide +kernel⟩
abbrev s_law_starts : Stmt := top 35
abbrev N_law_starts : List Str := ["_law_items_here", "_law_found", "_law_index", "_law_item"]
theorem sc_law_starts : FnScope N_law_starts ["_law_items_here"] (defScope s_law_starts) := ⟨rfl, rfl, rfl, by decide +kernel, rfl, by decide +kernel, by decide +kernel⟩
abbrev s_law_steps : Stmt := top 37
abbrev N_law_steps : List Str := ["_law_items_here", "_law_starts_here", "_law_found", "_law_index", "_law_item", "_law_more"]
theorem sc_law_steps : FnScope N_law_steps ["_law_items_here"] (defScope s_law_steps) := ⟨rfl, rfl, rfl, by decide +kernel, rfl, by decide +kernel, by decide +kernel⟩
abbrev s_law_times : Stmt := top 36
abbrev N_law_times : List Str := ["_law_items_here", "_law_starts_here", "_law_found", "_law_index", "_law_item", "_law_more"]
theorem sc_law_times : FnScope N_law_times ["_law_items_here"] (defScope s_law_times) := ⟨rfl, rfl, rfl, by decide +kernel, rfl, by decide +kernel, by decide +kernel⟩
abbrev s_law_small : Stmt := top 38
abbrev N_law_small : List Str := ["_law_deck_here", "_law_bound", "_law_found"]
theorem sc_law_small : FnScope N_law_small ["_law_deck_here", "_law_bound"] (defScope s_law_small) := ⟨rfl, rfl, rfl, by decide +kernel, rfl, by decide +kernel, by decide +kernel⟩
abbrev s_law_walk : Stmt := top 39
abbrev N_law_walk : List Str := ["_law_items_here", "_law_starts_here", "_law_counters", "_law_here", "_law_found", "_law_active", "_law_item", "_law_index", "_law_one"]
theorem sc_law_walk : FnScope N_law_walk ["_law_items_here"] (defScope s_law_walk) := ⟨rfl, rfl, rfl, by decide +kernel, rfl, by decide +kernel, by decide +kernel⟩
abbrev s_is_integer : Stmt := top 10
abbrev N_is_integer : List Str := ["value", "low", "high"]
theorem sc_is_integer : FnScope N_is_integer ["value", "low", "high"] (defScope s_is_integer) := ⟨rfl, rfl, rfl, by decide +kernel, rfl, by decide +kernel, by decide +kernel⟩
abbrev s_is_name : Stmt := top 11
abbrev N_is_name : List Str := ["value", "letter"]
theorem sc_is_name : FnScope N_is_name ["value"] (defScope s_is_name) := ⟨rfl, rfl, rfl, by decide +kernel, rfl, by decide +kernel, by decide +kernel⟩
abbrev s_is_item : Stmt := top 12
abbrev N_is_item : List Str := ["value", "marks"]
theorem sc_is_item : FnScope N_is_item ["value", "marks"] (defScope s_is_item) := ⟨rfl, rfl, rfl, by decide +kernel, rfl, by decide +kernel, by decide +kernel⟩
abbrev s_is_score : Stmt := top 13
abbrev N_is_score : List Str := ["value", "marks", "index", "item"]
theorem sc_is_score : FnScope N_is_score ["value"] (defScope s_is_score) := ⟨rfl, rfl, rfl, by decide +kernel, rfl, by decide +kernel, by decide +kernel⟩
abbrev s_require_score : Stmt := top 14
abbrev N_require_score : List Str := ["score"]
theorem sc_require_score : FnScope N_require_score ["score"] (defScope s_require_score) := ⟨rfl, rfl, rfl, by decide +kernel, rfl, by decide +kernel, by decide +kernel⟩
abbrev s_is_repeat : Stmt := top 15
abbrev N_is_repeat : List Str := ["score", "value"]
theorem sc_is_repeat : FnScope N_is_repeat ["score", "value"] (defScope s_is_repeat) := ⟨rfl, rfl, rfl, by decide +kernel, rfl, by decide +kernel, by decide +kernel⟩
abbrev s_is_active_entry : Stmt := top 23
abbrev N_is_active_entry : List Str := ["score", "value"]
theorem sc_is_active_entry : FnScope N_is_active_entry ["score", "value"] (defScope s_is_active_entry) := ⟨rfl, rfl, rfl, by decide +kernel, rfl, by decide +kernel, by decide +kernel⟩
abbrev s_mark_indices : Stmt := top 16
abbrev N_mark_indices : List Str := ["score", "index", "item"]
theorem sc_mark_indices : FnScope N_mark_indices ["score"] (defScope s_mark_indices) := ⟨rfl, rfl, rfl, by decide +kernel, rfl, by decide +kernel, by decide +kernel⟩
abbrev s_segment_starts : Stmt := top 17
abbrev N_segment_starts : List Str := ["score", "marks", "index", "item"]
theorem sc_segment_starts : FnScope N_segment_starts ["score"] (defScope s_segment_starts) := ⟨rfl, rfl, rfl, by decide +kernel, rfl, by decide +kernel, by decide +kernel⟩
abbrev s_is_state_of : Stmt := top 24
abbrev N_is_state_of : List Str := ["score", "value", "position", "active", "starts", "inside", "least", "repeat", "counter", "entry"]
theorem sc_is_state_of : FnScope N_is_state_of ["score", "value"] (defScope s_is_state_of) := ⟨rfl, rfl, rfl, by decide +kernel, rfl, by decide +kernel, by decide +kernel⟩
abbrev s_require_state : Stmt := top 25
abbrev N_require_state : List Str := ["score", "state"]
theorem sc_require_state : FnScope N_require_state ["score", "state"] (defScope s_require_state) := ⟨rfl, rfl, rfl, by decide +kernel, rfl, by decide +kernel, by decide +kernel⟩
abbrev s_counter_here : Stmt := top 26
abbrev N_counter_here : List Str := ["state", "position", "active"]
theorem sc_counter_here : FnScope N_counter_here ["state"] (defScope s_counter_here) := ⟨rfl, rfl, rfl, by decide +kernel, rfl, by decide +kernel, by decide +kernel⟩
abbrev s_step_from : Stmt := top 27
abbrev N_step_from : List Str := ["score", "starts", "state", "position", "active", "item", "counter", "others"]
theorem sc_step_from : FnScope N_step_from ["score", "starts", "state"] (defScope s_step_from) := ⟨rfl, rfl, rfl, by decide +kernel, rfl, by decide +kernel, by decide +kernel⟩
abbrev s_next_step : Stmt := top 28
abbrev N_next_step : List Str := ["score", "state"]
theorem sc_next_step : FnScope N_next_step ["score", "state"] (defScope s_next_step) := ⟨rfl, rfl, rfl, by decide +kernel, rfl, by decide +kernel, by decide +kernel⟩
abbrev s_previous_state : Stmt := top 29
abbrev N_previous_state : List Str := ["score", "state", "position", "active", "repeat", "counter", "item"]
theorem sc_previous_state : FnScope N_previous_state ["score", "state"] (defScope s_previous_state) := ⟨rfl, rfl, rfl, by decide +kernel, rfl, by decide +kernel, by decide +kernel⟩
abbrev s_law : Stmt := top 41
abbrev N_law : List Str := ["_law_script", "_law_deck_here", "_law_turn", "_law_items_here", "_law_walk_here", "_law_before", "_law_some", "_law_at", "_law_one", "_law_event", "_law_held", "_law_due", "_law_earlier", "_law_told", "_law_back", "_law_again", "_law_k"]
theorem sc_law : FnScope N_law ["_law_script"] (defScope s_law) := ⟨rfl, rfl, rfl, by decide +kernel, rfl, by decide +kernel, by decide +kernel⟩
structure Ms (mg : Str → Option Value) : Prop where
  f_all : mg "all" = none
  f_bool : mg "bool" = none
  f_enumerate : mg "enumerate" = none
  f_int : mg "int" = none
  f_isinstance : mg "isinstance" = none
  f_len : mg "len" = none
  f_list : mg "list" = none
  f_max : mg "max" = none
  f_min : mg "min" = none
  f_range : mg "range" = none
  f_repr : mg "repr" = none
  f_sorted : mg "sorted" = none
  f_str : mg "str" = none
  f_tuple : mg "tuple" = none
  f_zip : mg "zip" = none
  c_BAR : ∃ t, mg "BAR" = some (.str "bar" t)
  c_CONTINUE : ∃ t, mg "CONTINUE" = some (.str "continue" t)
  c_JUMP : ∃ t, mg "JUMP" = some (.str "jump" t)
  c_LETTERS : ∃ t, mg "LETTERS" = some (.str "abcdefghijklmnopqrstuvwxyz" t)
  c_MARK : ∃ t, mg "MARK" = some (.str "mark" t)
  c_MAX_NAME_LENGTH : ∃ t, mg "MAX_NAME_LENGTH" = some (.int 8 t)
  c_PASS : ∃ t, mg "PASS" = some (.str "pass" t)
  c_PLAY : ∃ t, mg "PLAY" = some (.str "play" t)
  c_REPEAT : ∃ t, mg "REPEAT" = some (.str "repeat" t)
theorem d_law_deck {P : Program} {w : World} {K : Fg} {mg : Str → Option Value} {base : Heap} {ca : Str → Addr} {f : Addr} (M : Ms mg)  (cdv : Value) (A : Around) (outer : List Env) (s : Shared) (H : Hp) (E : XK)
    (hr : Room 0 (A.deeper (PyProof.Rows.envOfC "_law_deck" (defScope s_law_deck) s.heap.objs.size f cdv))) : ∃ t, PSs (cxOf (L2N.CX P w) P w K mg base N_law_deck "_law_deck" (defScope s_law_deck) f cdv A outer s H E) (defBody s_law_deck) t ∧ SimS ⟨K, OpS K, ca⟩ (fun c d _ H => E c d H) t w_law_deck := by
  have hu := hu65 hr
  have tk : L2N.Takes (cxOf (L2N.CX P w) P w K mg base N_law_deck "_law_deck" (defScope s_law_deck) f cdv A outer s H E) (fun c d _ H => E c d H) := L2N.takes_of rfl rfl rfl rfl
  suffices h : ∃ t, DB (cxOf (L2N.CX P w) P w K mg base N_law_deck "_law_deck" (defScope s_law_deck) f cdv A outer s H E) ⟨K, OpS K, ca⟩ (fun c d _ H => E c d H) (defBody s_law_deck) t w_law_deck from let ⟨t, h⟩ := h; ⟨t, h.pe, h.sim⟩
  exact ⟨_, (db_cons (ds_set 1 sc_law_deck.nd (de_lst da_nil))
      (db_cons (ds_for .leaving rfl (di_range1 M.f_range (da_cons (de_b (b_max rfl) M.f_max (da_cons de_int (da_cons (de_b (b_min rfl) M.f_min (da_cons de_int (da_cons (de_lenS rfl rfl 0 M.f_len) da_nil))) da_nil))) da_nil)) (dg_name 2 sc_law_deck.nd) (db_cons (ds_set 3 sc_law_deck.nd de_int)
      (db_cons (ds_if (dt_cmp c_lt (dv 2) (de_lenS rfl rfl 0 M.f_len)) (db_one (ds_set 3 sc_law_deck.nd (de_ixS rfl rfl hu 0 (dv 2)))) db_nil)
      (db_one (ds_expr (de_append rfl 1 (de_lst (da_cons (dv 3) (da_cons (de_t (t_int) M.f_int (da_cons (de_cmp c_ge (dv 3) (de_pow de_int de_int)) da_nil)) (da_cons (de_mul de_int (dv 2)) da_nil))))))))))
      (db_one (ds_ret (de_lst (da_cons (dv 1) (da_cons de_int da_nil)))))))⟩
theorem d_law_draw {P : Program} {w : World} {K : Fg} {mg : Str → Option Value} {base : Heap} {ca : Str → Addr} {f : Addr} (M : Ms mg) (cdv : Value) (A : Around) (outer : List Env) (s : Shared) (H : Hp) (vs : List V) (Q : VK) (E : XK)
    (hr : Room 0 (A.deeper (PyProof.Rows.envOfC "_law_draw" (defScope s_law_draw) s.heap.objs.size f cdv))) (hsp : lift ⟨K, OpS K, ca⟩ fs_law_drawX vs H Q E) : ∃ t, PSs (cxOf (L2N.CX P w) P w K mg base N_law_draw "_law_draw" (defScope s_law_draw) f cdv A outer s H E) (defBody s_law_draw) t ∧ t { nx := fun _ H' => Q .non H', rt := Q } (L2.start N_law_draw vs) H := by
  have hu := hu65 hr
  have tk : L2N.Takes (cxOf (L2N.CX P w) P w K mg base N_law_draw "_law_draw" (defScope s_law_draw) f cdv A outer s H E) (fun c d _ H => E c d H) := L2N.takes_of rfl rfl rfl rfl
  obtain ⟨t3, h3⟩ : ∃ t3, DB (cxOf (L2N.CX P w) P w K mg base N_law_draw "_law_draw" (defScope s_law_draw) f cdv A outer s H E) ⟨K, OpS K, ca⟩ (fun c d _ H => E c d H) ((defBody s_law_draw).drop 2) t3 w_law_drawX := ⟨_, (db_cons (ds_if (dt_chn (dw_and (dt_cmp (c_eq rfl hu) (de_ix rfl hu (dv 2) de_int) de_int) (dw_and1 (dt_cmp c_gt (de_ix rfl hu (dv 2) de_int) de_int)))) (db_cons (ds_set 3 sc_law_draw.nd (de_mod (de_ix rfl hu (dv 2) de_int) (dv 1)))
      (db_cons (ds_lput 2 de_int (de_fdiv (de_ix rfl hu (dv 2) de_int) (dv 1)))
      (db_one (ds_ret (dv 3))))) db_nil)
      (db_cons (ds_lput 2 de_int (de_add rfl (de_ix rfl hu (dv 2) de_int) de_int))
      (db_cons (ds_set 4 sc_law_draw.nd (de_add rfl (de_mod (de_ix rfl hu (dv 2) de_int) de_int) (de_mul de_int (de_ix rfl hu (dv 2) de_int))))
      (db_cons (ds_set 4 sc_law_draw.nd (de_mod (de_pow (dv 4) de_int) de_int))
      (db_cons (ds_set 4 sc_law_draw.nd (de_mod (de_pow (de_add rfl (dv 4) (de_mul de_int (de_ix rfl hu (dv 2) de_int))) de_int) de_int))
      (db_one (ds_ret (de_mod (de_fdiv (dv 4) de_int) (dv 1)))))))))⟩
  exact ⟨_, pss_cons (show DS (cxOf (L2N.CX P w) P w K mg base N_law_draw "_law_draw" (defScope s_law_draw) f cdv A outer s H E) ⟨K, OpS K, ca⟩ (fun c d _ H => E c d H) _ _ _ from (ds_set 2 sc_law_draw.nd (de_ix rfl hu (de_ix rfl hu (dv 0) de_int) (de_mod (de_ix rfl hu (dv 0) de_int) (de_b (b_len rfl) M.f_len (da_cons (de_ix rfl hu (dv 0) de_int) da_nil)))))).pe (pss_cons (show DS (cxOf (L2N.CX P w) P w K mg base N_law_draw "_law_draw" (defScope s_law_draw) f cdv A outer s H E) ⟨K, OpS K, ca⟩ (fun c d _ H => E c d H) _ _ _ from (ds_lput 0 de_int (de_add rfl (de_ix rfl hu (dv 0) de_int) de_int))).pe h3.pe), deck_run rfl rest_ok h3.sim hsp⟩
theorem d_law_same {P : Program} {w : World} {K : Fg} {mg : Str → Option Value} {base : Heap} {ca : Str → Addr} {f : Addr} (M : Ms mg) {fsr : FS} {k0 : Nat} (g_law_same : Gd P w ⟨K, OpS K, ca⟩ mg base k0 "_law_same" fsr ["_law_found", "_law_due"] []) (cdv : Value) (A : Around) (outer : List Env) (s : Shared) (H : Hp) (E : XK)
    (hr : Room k0 (A.deeper (PyProof.Rows.envOfC "_law_same" (defScope s_law_same) s.heap.objs.size f cdv))) : ∃ t, PSs (cxOf (L2N.CX P w) P w K mg base N_law_same "_law_same" (defScope s_law_same) f cdv A outer s H E) (defBody s_law_same) t ∧ SimS ⟨K, OpS K, ca⟩ (fun c d _ H => E c d H) t (w_law_same fsr) := by
  have hu := hu65 hr
  have tk : L2N.Takes (cxOf (L2N.CX P w) P w K mg base N_law_same "_law_same" (defScope s_law_same) f cdv A outer s H E) (fun c d _ H => E c d H) := L2N.takes_of rfl rfl rfl rfl
  suffices h : ∃ t, DB (cxOf (L2N.CX P w) P w K mg base N_law_same "_law_same" (defScope s_law_same) f cdv A outer s H E) ⟨K, OpS K, ca⟩ (fun c d _ H => E c d H) (defBody s_law_same) t (w_law_same fsr) from let ⟨t, h⟩ := h; ⟨t, h.pe, h.sim⟩
  exact ⟨_, (db_cons (ds_if (dt_val (de_isi2 rfl kit_list kit_tuple M.f_isinstance M.f_list M.f_tuple (dv 1))) (db_cons (ds_if (dt_chn (dw_or (dt_not (dt_val (de_isi2 rfl kit_list kit_tuple M.f_isinstance M.f_list M.f_tuple (dv 0)))) (dw_or1 (dt_cmp (c_ne rfl hu) (de_isi rfl kit_list M.f_isinstance M.f_list (dv 0)) (de_isi rfl kit_list M.f_isinstance M.f_list (dv 1)))))) (db_one (ds_ret de_bl)) db_nil)
      (db_one (ds_ret (de_and (de_cmp (c_eq rfl hu) (de_b (b_len rfl) M.f_len (da_cons (dv 0) da_nil)) (de_b (b_len rfl) M.f_len (da_cons (dv 1) da_nil))) (de_one (de_b (b_all rfl rfl) M.f_all (da_cons (de_lc (own := [("_law_one", 2), ("_law_two", 3)]) rfl sc_law_same.nd (di_zipA rfl M.f_zip (da_cons (dv 0) (da_cons (dv 1) da_nil))) (blkOk_by (N := N_law_same) (sc := defScope s_law_same) (by decide +kernel)) (by decide) (fun _ _ _ _ _ => (dgw_tup (n := 2) rfl rfl (dgsw_cons (dgw_name 2 sc_law_same.nd) (dgsw_cons (dgw_name 3 sc_law_same.nd) dgsw_nil)))) (fun _ _ _ _ _ => dts_nil) (fun _ _ _ _ _ => (de_call rfl g_law_same hr takes0N (da_cons (dv 2) (da_cons (dv 3) da_nil))))) da_nil))))))) db_nil)
      (db_one (ds_ret (de_and (de_cmp (c_eq rfl hu) (de_isi rfl kit_bool M.f_isinstance M.f_bool (dv 0)) (de_isi rfl kit_bool M.f_isinstance M.f_bool (dv 1))) (de_one (de_cmp (c_eq rfl hu) (dv 0) (dv 1)))))))⟩
theorem d_law_mark_names {P : Program} {w : World} {K : Fg} {mg : Str → Option Value} {base : Heap} {ca : Str → Addr} {f : Addr} (M : Ms mg)  (cdv : Value) (A : Around) (outer : List Env) (s : Shared) (H : Hp) (E : XK)
    (hr : Room 0 (A.deeper (PyProof.Rows.envOfC "_law_mark_names" (defScope s_law_mark_names) s.heap.objs.size f cdv))) : ∃ t, PSs (cxOf (L2N.CX P w) P w K mg base N_law_mark_names "_law_mark_names" (defScope s_law_mark_names) f cdv A outer s H E) (defBody s_law_mark_names) t ∧ SimS ⟨K, OpS K, ca⟩ (fun c d _ H => E c d H) t w_law_mark_names := by
  have hu := hu65 hr
  have tk : L2N.Takes (cxOf (L2N.CX P w) P w K mg base N_law_mark_names "_law_mark_names" (defScope s_law_mark_names) f cdv A outer s H E) (fun c d _ H => E c d H) := L2N.takes_of rfl rfl rfl rfl
  suffices h : ∃ t, DB (cxOf (L2N.CX P w) P w K mg base N_law_mark_names "_law_mark_names" (defScope s_law_mark_names) f cdv A outer s H E) ⟨K, OpS K, ca⟩ (fun c d _ H => E c d H) (defBody s_law_mark_names) t w_law_mark_names from let ⟨t, h⟩ := h; ⟨t, h.pe, h.sim⟩
  exact ⟨_, (db_cons (ds_set 0 sc_law_mark_names.nd (de_add rfl (de_t (t_listS rfl) M.f_list (da_cons de_str da_nil)) (de_lst (da_cons de_str (da_cons de_str (da_cons de_str (da_cons de_str (da_cons de_str (da_cons de_str (da_cons de_str (da_cons de_str da_nil)))))))))))
      (db_one (ds_ret (de_add rfl (dv 0) (de_lst (da_cons de_str (da_cons de_str (da_cons de_str (da_cons de_str (da_cons de_str (da_cons de_str da_nil)))))))))))⟩
theorem d_law_items {P : Program} {w : World} {K : Fg} {mg : Str → Option Value} {base : Heap} {ca : Str → Addr} {f : Addr} (M : Ms mg) (g_law_draw : Gd P w ⟨K, OpS K, ca⟩ mg base 1 "_law_draw" fs_law_drawX ["_law_deck_here", "_law_many"] []) (g_law_mark_names : Gd P w ⟨K, OpS K, ca⟩ mg base 1 "_law_mark_names" fs_law_mark_names [] []) (cdv : Value) (A : Around) (outer : List Env) (s : Shared) (H : Hp) (E : XK)
    (hr : Room 1 (A.deeper (PyProof.Rows.envOfC "_law_items" (defScope s_law_items) s.heap.objs.size f cdv))) : ∃ t, PSs (cxOf (L2N.CX P w) P w K mg base N_law_items "_law_items" (defScope s_law_items) f cdv A outer s H E) (defBody s_law_items) t ∧ SimS ⟨K, OpS K, ca⟩ (fun c d _ H => E c d H) t w_law_items := by
  have hu := hu65 hr
  have tk : L2N.Takes (cxOf (L2N.CX P w) P w K mg base N_law_items "_law_items" (defScope s_law_items) f cdv A outer s H E) (fun c d _ H => E c d H) := L2N.takes_of rfl rfl rfl rfl
  suffices h : ∃ t, DB (cxOf (L2N.CX P w) P w K mg base N_law_items "_law_items" (defScope s_law_items) f cdv A outer s H E) ⟨K, OpS K, ca⟩ (fun c d _ H => E c d H) (defBody s_law_items) t w_law_items from let ⟨t, h⟩ := h; ⟨t, h.pe, h.sim⟩
  exact ⟨_, (db_cons (ds_par3 3 4 5 rfl sc_law_items.nd (dl_cons (de_lst da_nil) (dl_cons (de_lst da_nil) (dl_cons (de_call0 rfl g_law_mark_names hr tk) dl_nil))))
      (db_cons (ds_for .leaving rfl (di_range1 M.f_range (da_cons (de_callIo rfl 0 g_law_draw hr tk (da_cons (de_add rfl (dv 1) de_int) da_nil)) da_nil)) (dg_name 6 sc_law_items.nd) (db_cons (ds_set 7 sc_law_items.nd (de_callIo rfl 0 g_law_draw hr tk (da_cons de_int da_nil)))
      (db_one (ds_if (dt_chn (dw_or (dt_chn (dw_and (dt_cmp c_lt (dv 7) de_int) (dw_and1 (dt_cmp (c_ne rfl hu) (dv 5) (de_lst da_nil))))) (dw_or1 (dt_chn (dw_and (dt_cmp (c_eq rfl hu) (dv 6) de_int) (dw_and1 (dt_cmp c_lt (dv 7) de_int))))))) (db_cons (ds_expr (de_append rfl 4 (de_pop1 rfl 5 (de_callIo rfl 0 g_law_draw hr tk (da_cons (de_b (b_len rfl) M.f_len (da_cons (dv 5) da_nil)) da_nil)))))
      (db_one (ds_expr (de_append rfl 3 (de_tup (da_cons de_str (da_cons (de_ix rfl hu (dv 4) (de_neg de_int)) da_nil))))))) (db_one (ds_if (dt_chn (dw_and (dt_cmp c_lt (dv 7) de_int) (dw_and1 (dt_cmp (c_ne rfl hu) (dv 4) (de_lst da_nil))))) (db_cons (ds_set 8 sc_law_items.nd (de_add rfl de_int (de_ix rfl hu (de_lst (da_cons (de_callIo rfl 0 g_law_draw hr tk (da_cons de_int da_nil)) (da_cons (de_callIo rfl 0 g_law_draw hr tk (da_cons (dv 2) da_nil)) da_nil))) (de_callIo rfl 0 g_law_draw hr tk (da_cons de_int da_nil)))))
      (db_one (ds_expr (de_append rfl 3 (de_tup (da_cons de_str (da_cons (de_ix rfl hu (dv 4) (de_callIo rfl 0 g_law_draw hr tk (da_cons (de_b (b_len rfl) M.f_len (da_cons (dv 4) da_nil)) da_nil))) (da_cons (dv 8) da_nil)))))))) (db_one (ds_expr (de_append rfl 3 (de_tup (da_cons de_str (da_cons (de_ix rfl hu (de_lst (da_cons de_str (da_cons de_str (da_cons de_str (da_cons de_str (da_cons de_str da_nil)))))) (de_callIo rfl 0 g_law_draw hr tk (da_cons de_int da_nil))) da_nil))))))))))))
      (db_one (ds_ret (dv 3)))))⟩
theorem d_law_starts {P : Program} {w : World} {K : Fg} {mg : Str → Option Value} {base : Heap} {ca : Str → Addr} {f : Addr} (M : Ms mg)  (cdv : Value) (A : Around) (outer : List Env) (s : Shared) (H : Hp) (E : XK)
    (hr : Room 0 (A.deeper (PyProof.Rows.envOfC "_law_starts" (defScope s_law_starts) s.heap.objs.size f cdv))) : ∃ t, PSs (cxOf (L2N.CX P w) P w K mg base N_law_starts "_law_starts" (defScope s_law_starts) f cdv A outer s H E) (defBody s_law_starts) t ∧ SimS ⟨K, OpS K, ca⟩ (fun c d _ H => E c d H) t w_law_starts := by
  have hu := hu65 hr
  have tk : L2N.Takes (cxOf (L2N.CX P w) P w K mg base N_law_starts "_law_starts" (defScope s_law_starts) f cdv A outer s H E) (fun c d _ H => E c d H) := L2N.takes_of rfl rfl rfl rfl
  suffices h : ∃ t, DB (cxOf (L2N.CX P w) P w K mg base N_law_starts "_law_starts" (defScope s_law_starts) f cdv A outer s H E) ⟨K, OpS K, ca⟩ (fun c d _ H => E c d H) (defBody s_law_starts) t w_law_starts from let ⟨t, h⟩ := h; ⟨t, h.pe, h.sim⟩
  exact ⟨_, (db_cons (ds_set 1 sc_law_starts.nd de_dict0)
      (db_cons (ds_for .leaving rfl (di_enum rfl M.f_enumerate (da_cons (dv 0) da_nil)) (dg_tup (n := 2) rfl rfl (dgs_cons (dg_name 2 sc_law_starts.nd) (dgs_cons (dg_name 3 sc_law_starts.nd) dgs_nil))) (db_one (ds_if (dt_cmp (c_eq rfl hu) (de_ix rfl hu (dv 3) de_int) de_str) (db_one (ds_dput hu 1 (dv 2) (de_add rfl (de_index rfl hu (dv 0) (de_tup (da_cons de_str (da_cons (de_ix rfl hu (dv 3) de_int) da_nil)))) de_int))) db_nil)))
      (db_one (ds_ret (dv 1)))))⟩
theorem d_law_steps {P : Program} {w : World} {K : Fg} {mg : Str → Option Value} {base : Heap} {ca : Str → Addr} {f : Addr} (M : Ms mg) (g_law_starts : Gd P w ⟨K, OpS K, ca⟩ mg base 1 "_law_starts" fs_law_starts ["_law_items_here"] []) (cdv : Value) (A : Around) (outer : List Env) (s : Shared) (H : Hp) (E : XK)
    (hr : Room 1 (A.deeper (PyProof.Rows.envOfC "_law_steps" (defScope s_law_steps) s.heap.objs.size f cdv))) : ∃ t, PSs (cxOf (L2N.CX P w) P w K mg base N_law_steps "_law_steps" (defScope s_law_steps) f cdv A outer s H E) (defBody s_law_steps) t ∧ SimS ⟨K, OpS K, ca⟩ (fun c d _ H => E c d H) t w_law_steps := by
  have hu := hu65 hr
  have tk : L2N.Takes (cxOf (L2N.CX P w) P w K mg base N_law_steps "_law_steps" (defScope s_law_steps) f cdv A outer s H E) (fun c d _ H => E c d H) := L2N.takes_of rfl rfl rfl rfl
  suffices h : ∃ t, DB (cxOf (L2N.CX P w) P w K mg base N_law_steps "_law_steps" (defScope s_law_steps) f cdv A outer s H E) ⟨K, OpS K, ca⟩ (fun c d _ H => E c d H) (defBody s_law_steps) t w_law_steps from let ⟨t, h⟩ := h; ⟨t, h.pe, h.sim⟩
  exact ⟨_, (db_cons (ds_par 1 2 rfl sc_law_steps.nd (dl_cons (de_call rfl g_law_starts hr tk (da_cons (dv 0) da_nil)) (dl_cons (de_lst (da_cons de_int da_nil)) dl_nil)))
      (db_cons (ds_for .leaving rfl (di_enum rfl M.f_enumerate (da_cons (dv 0) da_nil)) (dg_tup (n := 2) rfl rfl (dgs_cons (dg_name 3 sc_law_steps.nd) (dgs_cons (dg_name 4 sc_law_steps.nd) dgs_nil))) (db_cons (ds_set 5 sc_law_steps.nd de_int)
      (db_cons (ds_if (dt_cmp (c_eq rfl hu) (de_ix rfl hu (dv 4) de_int) de_str) (db_one (ds_set 5 sc_law_steps.nd (de_add rfl de_int (de_mul (de_ix rfl hu (dv 4) de_int) (de_sub (de_add rfl de_int (de_ix rfl hu (dv 2) (dv 3))) (de_ix rfl hu (dv 2) (de_ix rfl hu (dv 1) (dv 3)))))))) db_nil)
      (db_one (ds_expr (de_append rfl 2 (de_add rfl (de_ix rfl hu (dv 2) (de_neg de_int)) (dv 5))))))))
      (db_one (ds_ret (de_ix rfl hu (dv 2) (de_neg de_int))))))⟩
theorem d_law_times {P : Program} {w : World} {K : Fg} {mg : Str → Option Value} {base : Heap} {ca : Str → Addr} {f : Addr} (M : Ms mg) (g_law_starts : Gd P w ⟨K, OpS K, ca⟩ mg base 1 "_law_starts" fs_law_starts ["_law_items_here"] []) (cdv : Value) (A : Around) (outer : List Env) (s : Shared) (H : Hp) (E : XK)
    (hr : Room 1 (A.deeper (PyProof.Rows.envOfC "_law_times" (defScope s_law_times) s.heap.objs.size f cdv))) : ∃ t, PSs (cxOf (L2N.CX P w) P w K mg base N_law_times "_law_times" (defScope s_law_times) f cdv A outer s H E) (defBody s_law_times) t ∧ SimS ⟨K, OpS K, ca⟩ (fun c d _ H => E c d H) t w_law_timesK := by
  have hu := hu65 hr
  have tk : L2N.Takes (cxOf (L2N.CX P w) P w K mg base N_law_times "_law_times" (defScope s_law_times) f cdv A outer s H E) (fun c d _ H => E c d H) := L2N.takes_of rfl rfl rfl rfl
  suffices h : ∃ t, DB (cxOf (L2N.CX P w) P w K mg base N_law_times "_law_times" (defScope s_law_times) f cdv A outer s H E) ⟨K, OpS K, ca⟩ (fun c d _ H => E c d H) (defBody s_law_times) t w_law_timesK from let ⟨t, h⟩ := h; ⟨t, h.pe, h.sim⟩
  exact ⟨_, (db_cons (ds_par 1 2 rfl sc_law_times.nd (dl_cons (de_call rfl g_law_starts hr tk (da_cons (dv 0) da_nil)) (dl_cons (de_lst (da_cons de_int da_nil)) dl_nil)))
      (db_cons (ds_for .leaving rfl (di_enum rfl M.f_enumerate (da_cons (dv 0) da_nil)) (dg_tup (n := 2) rfl rfl (dgs_cons (dg_name 3 sc_law_times.nd) (dgs_cons (dg_name 4 sc_law_times.nd) dgs_nil))) (db_cons (ds_set 5 sc_law_times.nd (de_if (dt_cmp (c_eq rfl hu) (de_ix rfl hu (dv 4) de_int) de_str) de_int de_int))
      (db_cons (ds_if (dt_cmp (c_eq rfl hu) (de_ix rfl hu (dv 4) de_int) de_str) (db_one (ds_set 5 sc_law_times.nd (de_mul (de_ix rfl hu (dv 4) de_int) (de_sub (de_ix rfl hu (dv 2) (dv 3)) (de_ix rfl hu (dv 2) (de_ix rfl hu (dv 1) (dv 3))))))) db_nil)
      (db_one (ds_expr (de_append rfl 2 (de_add rfl (de_ix rfl hu (dv 2) (de_neg de_int)) (dv 5))))))))
      (db_one (ds_ret (dv 2)))))⟩
theorem d_law_small {P : Program} {w : World} {K : Fg} {mg : Str → Option Value} {base : Heap} {ca : Str → Addr} {f : Addr} (M : Ms mg) (g_law_items : Gd P w ⟨K, OpS K, ca⟩ mg base 2 "_law_items" fs_law_items ["_law_deck_here", "_law_most", "_law_wide"] []) (g_law_steps : Gd P w ⟨K, OpS K, ca⟩ mg base 2 "_law_steps" fs_law_steps ["_law_items_here"] []) (g_law_times : Gd P w ⟨K, OpS K, ca⟩ mg base 2 "_law_times" fs_law_timesK ["_law_items_here"] []) (cdv : Value) (A : Around) (outer : List Env) (s : Shared) (H : Hp) (E : XK)
    (hr : Room 2 (A.deeper (PyProof.Rows.envOfC "_law_small" (defScope s_law_small) s.heap.objs.size f cdv))) : ∃ t, PSs (cxOf (L2N.CX P w) P w K mg base N_law_small "_law_small" (defScope s_law_small) f cdv A outer s H E) (defBody s_law_small) t ∧ SimS ⟨K, OpS K, ca⟩ (fun c d _ H => E c d H) t w_law_small := by
  have hu := hu65 hr
  have tk : L2N.Takes (cxOf (L2N.CX P w) P w K mg base N_law_small "_law_small" (defScope s_law_small) f cdv A outer s H E) (fun c d _ H => E c d H) := L2N.takes_of rfl rfl rfl rfl
  suffices h : ∃ t, DB (cxOf (L2N.CX P w) P w K mg base N_law_small "_law_small" (defScope s_law_small) f cdv A outer s H E) ⟨K, OpS K, ca⟩ (fun c d _ H => E c d H) (defBody s_law_small) t w_law_small from let ⟨t, h⟩ := h; ⟨t, h.pe, h.sim⟩
  exact ⟨_, (db_cons (ds_set 2 sc_law_small.nd (de_callIo rfl 0 g_law_items hr tk (da_cons de_int (da_cons de_int da_nil))))
      (db_cons (ds_while .leaving (dt_chn (dw_or (dt_cmp c_gt (de_fz (de_ix rfl hu (de_call rfl g_law_times hr tk (da_cons (dv 2) da_nil)) (de_neg de_int))) (dv 1)) (dw_or1 (dt_cmp c_gt (de_fz (de_call rfl g_law_steps hr tk (da_cons (dv 2) da_nil))) (de_add rfl (de_mul de_int (dv 1)) de_int))))) (db_one (ds_expr (de_pop0 rfl 2))))
      (db_one (ds_ret (dv 2)))))⟩
theorem d_law_walk {P : Program} {w : World} {K : Fg} {mg : Str → Option Value} {base : Heap} {ca : Str → Addr} {f : Addr} (M : Ms mg) (g_law_starts : Gd P w ⟨K, OpS K, ca⟩ mg base 1 "_law_starts" fs_law_starts ["_law_items_here"] []) (cdv : Value) (A : Around) (outer : List Env) (s : Shared) (H : Hp) (E : XK)
    (hr : Room 1 (A.deeper (PyProof.Rows.envOfC "_law_walk" (defScope s_law_walk) s.heap.objs.size f cdv))) : ∃ t, PSs (cxOf (L2N.CX P w) P w K mg base N_law_walk "_law_walk" (defScope s_law_walk) f cdv A outer s H E) (defBody s_law_walk) t ∧ SimS ⟨K, OpS K, ca⟩ (fun c d _ H => E c d H) t w_law_walkK := by
  have hu := hu65 hr
  have tk : L2N.Takes (cxOf (L2N.CX P w) P w K mg base N_law_walk "_law_walk" (defScope s_law_walk) f cdv A outer s H E) (fun c d _ H => E c d H) := L2N.takes_of rfl rfl rfl rfl
  suffices h : ∃ t, DB (cxOf (L2N.CX P w) P w K mg base N_law_walk "_law_walk" (defScope s_law_walk) f cdv A outer s H E) ⟨K, OpS K, ca⟩ (fun c d _ H => E c d H) (defBody s_law_walk) t w_law_walkK from let ⟨t, h⟩ := h; ⟨t, h.pe, h.sim⟩
  exact ⟨_, (db_cons (pg_names (is := [1, 2, 3, 4]) rfl rfl (dl_cons (de_call rfl g_law_starts hr tk (da_cons (dv 0) da_nil)) (dl_cons de_dict0 (dl_cons de_int (dl_cons (de_lst da_nil) dl_nil)))) (pgs_cons (pg_name (i := 1) sc_law_walk.nd rfl (by first | exact .inl rfl | exact .inr rfl)) (pgs_cons (pg_name (i := 2) sc_law_walk.nd rfl (by first | exact .inl rfl | exact .inr rfl)) (pgs_cons (pg_name (i := 3) sc_law_walk.nd rfl (by first | exact .inl rfl | exact .inr rfl)) (pgs_cons (pg_name (i := 4) sc_law_walk.nd rfl (by first | exact .inl rfl | exact .inr rfl)) pgs_nil)))) rfl (by decide))
      (db_cons (ds_while .leaving (dt_cmp c_lt (dv 3) (de_b (b_len rfl) M.f_len (da_cons (dv 0) da_nil))) (db_cons (ds_setLc 5 (own := [("_law_index", 7)]) rfl sc_law_walk.nd (di_list rfl (de_b (b_sortDI rfl) M.f_sorted (da_cons (dv 2) da_nil))) (blkOk_by (N := N_law_walk) (sc := defScope s_law_walk) (by decide +kernel)) (by decide) (fun _ _ _ _ _ => (dgw_name 7 sc_law_walk.nd)) (fun _ _ _ _ _ => (dts_one (dt_cmp c_ge (dv 7) (dv 3)))) (fun _ _ _ _ _ => (de_tup (da_cons (dv 7) (da_cons (de_ix rfl hu (dv 2) (dv 7)) da_nil)))) (sw_true rfl rfl rfl (by decide +kernel)))
      (db_cons (ds_set 6 sc_law_walk.nd (de_ix rfl hu (dv 0) (dv 3)))
      (db_one (ds_if (dt_cmp (c_ne rfl hu) (de_ix rfl hu (dv 6) de_int) de_str) (db_cons (ds_expr (de_append rfl 4 (de_lst (da_cons (de_tup (da_cons (dv 3) (da_cons (dv 5) da_nil))) (da_cons (de_if (dt_cmp (c_eq rfl hu) (de_ix rfl hu (dv 6) de_int) de_str) de_str de_str) da_nil)))))
      (db_one (ds_set 3 sc_law_walk.nd (de_add rfl (dv 3) de_int)))) (db_one (ds_if (dt_cmp c_lt (de_get2 hu (dv 2) (dv 3) de_int) (de_ix rfl hu (dv 6) de_int)) (db_cons (ds_expr (de_append rfl 4 (de_lst (da_cons (de_tup (da_cons (dv 3) (da_cons (dv 5) da_nil))) (da_cons de_str da_nil)))))
      (db_cons (ds_dput hu 2 (dv 3) (de_add rfl (de_get2 hu (dv 2) (dv 3) de_int) de_int))
      (db_cons (ds_for .leaving rfl (di_list rfl (de_lcO 2 (own := [("_law_one", 8)]) rfl sc_law_walk.nd  (blkOk_by (N := N_law_walk) (sc := defScope s_law_walk) (by decide +kernel)) (by decide) (fun _ _ _ _ _ => (dgw_name 8 sc_law_walk.nd)) (fun _ _ _ _ _ => (dts_one (dt_chain c_le c_lt (de_ix rfl hu (dv 1) (dv 3)) (dv 8) (dv 3)))) (fun _ _ _ _ _ => (dv 8)))) (dg_name 7 sc_law_walk.nd) (db_one (ds_expr (de_dpop 2 (dv 7)))))
      (db_one (ds_set 3 sc_law_walk.nd (de_ix rfl hu (dv 1) (dv 3))))))) (db_cons (ds_expr (de_append rfl 4 (de_lst (da_cons (de_tup (da_cons (dv 3) (da_cons (dv 5) da_nil))) (da_cons de_str da_nil)))))
      (db_one (ds_set 3 sc_law_walk.nd (de_add rfl (dv 3) de_int)))))))))))
      (db_one (ds_ret (de_add rfl (dv 4) (de_lst (da_cons (de_lst (da_cons (de_tup (da_cons (dv 3) (da_cons (de_lst da_nil) da_nil))) (da_cons de_non da_nil))) da_nil)))))))⟩
theorem d_is_integer {P : Program} {w : World} {K : Fg} {mg : Str → Option Value} {base : Heap} {ca : Str → Addr} {f : Addr} (M : Ms mg)  (cdv : Value) (A : Around) (outer : List Env) (s : Shared) (H : Hp) (E : XK)
    (hr : Room 0 (A.deeper (PyProof.Rows.envOfC "is_integer" (defScope s_is_integer) s.heap.objs.size f cdv))) : ∃ t, PSs (cxOf (L2N.CX P w) P w K mg base N_is_integer "is_integer" (defScope s_is_integer) f cdv A outer s H E) (defBody s_is_integer) t ∧ SimS ⟨K, OpS K, ca⟩ (fun c d _ H => E c d H) t w_is_integer := by
  have hu := hu65 hr
  have tk : L2N.Takes (cxOf (L2N.CX P w) P w K mg base N_is_integer "is_integer" (defScope s_is_integer) f cdv A outer s H E) (fun c d _ H => E c d H) := L2N.takes_of rfl rfl rfl rfl
  suffices h : ∃ t, DB (cxOf (L2N.CX P w) P w K mg base N_is_integer "is_integer" (defScope s_is_integer) f cdv A outer s H E) ⟨K, OpS K, ca⟩ (fun c d _ H => E c d H) (defBody s_is_integer) t w_is_integer from let ⟨t, h⟩ := h; ⟨t, h.pe, h.sim⟩
  exact ⟨_, (db_cons (ds_if (dt_chn (dw_or (dt_not (dt_val (de_isi rfl kit_int M.f_isinstance M.f_int (dv 0)))) (dw_or (dt_val (de_isi rfl kit_bool M.f_isinstance M.f_bool (dv 0))) (dw_or1 (dt_cmp c_lt (dv 0) (dv 1)))))) (db_one (ds_ret de_bl)) db_nil)
      (db_one (ds_ret (de_or (de_cmp c_isN (dv 2) de_non) (de_one (de_cmp c_le (dv 0) (dv 2)))))))⟩
theorem d_is_name {P : Program} {w : World} {K : Fg} {mg : Str → Option Value} {base : Heap} {ca : Str → Addr} {f : Addr} (M : Ms mg)  (cdv : Value) (A : Around) (outer : List Env) (s : Shared) (H : Hp) (E : XK)
    (hr : Room 0 (A.deeper (PyProof.Rows.envOfC "is_name" (defScope s_is_name) s.heap.objs.size f cdv))) : ∃ t, PSs (cxOf (L2N.CX P w) P w K mg base N_is_name "is_name" (defScope s_is_name) f cdv A outer s H E) (defBody s_is_name) t ∧ SimS ⟨K, OpS K, ca⟩ (fun c d _ H => E c d H) t w_is_name := by
  have hu := hu65 hr
  have tk : L2N.Takes (cxOf (L2N.CX P w) P w K mg base N_is_name "is_name" (defScope s_is_name) f cdv A outer s H E) (fun c d _ H => E c d H) := L2N.takes_of rfl rfl rfl rfl
  suffices h : ∃ t, DB (cxOf (L2N.CX P w) P w K mg base N_is_name "is_name" (defScope s_is_name) f cdv A outer s H E) ⟨K, OpS K, ca⟩ (fun c d _ H => E c d H) (defBody s_is_name) t w_is_name from let ⟨t, h⟩ := h; ⟨t, h.pe, h.sim⟩
  exact ⟨_, (db_cons (ds_if (dt_chn (dw_or (dt_not (dt_val (de_isi rfl kit_str M.f_isinstance M.f_str (dv 0)))) (dw_or1 (dt_not (dt_chain c_le c_le de_int (de_b (b_len rfl) M.f_len (da_cons (dv 0) da_nil)) (de_gint M.c_MAX_NAME_LENGTH)))))) (db_one (ds_ret de_bl)) db_nil)
      (db_one (ds_ret (de_b (b_all rfl rfl) M.f_all (da_cons (de_lc (own := [("letter", 1)]) rfl sc_is_name.nd (di_str (dv 0)) (blkOk_by (N := N_is_name) (sc := defScope s_is_name) (by decide +kernel)) (by decide) (fun _ _ _ _ _ => (dgw_name 1 sc_is_name.nd)) (fun _ _ _ _ _ => dts_nil) (fun _ _ _ _ _ => (de_cmp (c_in rfl hu) (dv 1) (de_gstr M.c_LETTERS)))) da_nil)))))⟩
theorem d_is_item {P : Program} {w : World} {K : Fg} {mg : Str → Option Value} {base : Heap} {ca : Str → Addr} {f : Addr} (M : Ms mg) (g_is_integer_0 : Gd P w ⟨K, OpS K, ca⟩ mg base 1 "is_integer" fs_is_integer ["value", "low", "high"] []) (g_is_integer_1 : Gd P w ⟨K, OpS K, ca⟩ mg base 1 "is_integer" fs_is_integer ["value", "low", "high"] [.non]) (g_is_name : Gd P w ⟨K, OpS K, ca⟩ mg base 1 "is_name" fs_is_name ["value"] []) (cdv : Value) (A : Around) (outer : List Env) (s : Shared) (H : Hp) (E : XK)
    (hr : Room 1 (A.deeper (PyProof.Rows.envOfC "is_item" (defScope s_is_item) s.heap.objs.size f cdv))) : ∃ t, PSs (cxOf (L2N.CX P w) P w K mg base N_is_item "is_item" (defScope s_is_item) f cdv A outer s H E) (defBody s_is_item) t ∧ SimS ⟨K, OpS K, ca⟩ (fun c d _ H => E c d H) t w_is_item := by
  have hu := hu65 hr
  have tk : L2N.Takes (cxOf (L2N.CX P w) P w K mg base N_is_item "is_item" (defScope s_is_item) f cdv A outer s H E) (fun c d _ H => E c d H) := L2N.takes_of rfl rfl rfl rfl
  suffices h : ∃ t, DB (cxOf (L2N.CX P w) P w K mg base N_is_item "is_item" (defScope s_is_item) f cdv A outer s H E) ⟨K, OpS K, ca⟩ (fun c d _ H => E c d H) (defBody s_is_item) t w_is_item from let ⟨t, h⟩ := h; ⟨t, h.pe, h.sim⟩
  exact ⟨_, (db_cons (ds_if (dt_chn (dw_or (dt_not (dt_val (de_isi rfl kit_tuple M.f_isinstance M.f_tuple (dv 0)))) (dw_or (dt_cmp (c_notin rfl hu) (de_b (b_len rfl) M.f_len (da_cons (dv 0) da_nil)) (de_tup (da_cons de_int (da_cons de_int da_nil)))) (dw_or1 (dt_not (dt_val (de_call rfl g_is_name hr tk (da_cons (de_ix rfl hu (dv 0) de_int) da_nil)))))))) (db_one (ds_ret de_bl)) db_nil)
      (db_cons (ds_if (dt_cmp (c_eq rfl hu) (de_b (b_len rfl) M.f_len (da_cons (dv 0) da_nil)) de_int) (db_one (ds_ret (de_and (de_cmp (c_eq rfl hu) (de_ix rfl hu (dv 0) de_int) (de_gstr M.c_REPEAT)) (de_and (de_cmp (c_in rfl hu) (de_ix rfl hu (dv 0) de_int) (dv 1)) (de_one (de_callD rfl g_is_integer_1 hr tk (fun _ => .cons .non (.nil)) (da_cons (de_ix rfl hu (dv 0) de_int) (da_cons de_int da_nil)))))))) db_nil)
      (db_one (ds_ret (de_or (de_cmp (c_eq rfl hu) (de_ix rfl hu (dv 0) de_int) (de_gstr M.c_BAR)) (de_one (de_and (de_cmp (c_eq rfl hu) (de_ix rfl hu (dv 0) de_int) (de_gstr M.c_MARK)) (de_one (de_cmp (c_notin rfl hu) (de_ix rfl hu (dv 0) de_int) (dv 1))))))))))⟩
theorem d_is_score {P : Program} {w : World} {K : Fg} {mg : Str → Option Value} {base : Heap} {ca : Str → Addr} {f : Addr} (M : Ms mg) (g_is_item : Gd P w ⟨K, OpS K, ca⟩ mg base 2 "is_item" fs_is_item ["value", "marks"] []) (cdv : Value) (A : Around) (outer : List Env) (s : Shared) (H : Hp) (E : XK)
    (hr : Room 2 (A.deeper (PyProof.Rows.envOfC "is_score" (defScope s_is_score) s.heap.objs.size f cdv))) : ∃ t, PSs (cxOf (L2N.CX P w) P w K mg base N_is_score "is_score" (defScope s_is_score) f cdv A outer s H E) (defBody s_is_score) t ∧ SimS ⟨K, OpS K, ca⟩ (fun c d _ H => E c d H) t w_is_score := by
  have hu := hu65 hr
  have tk : L2N.Takes (cxOf (L2N.CX P w) P w K mg base N_is_score "is_score" (defScope s_is_score) f cdv A outer s H E) (fun c d _ H => E c d H) := L2N.takes_of rfl rfl rfl rfl
  suffices h : ∃ t, DB (cxOf (L2N.CX P w) P w K mg base N_is_score "is_score" (defScope s_is_score) f cdv A outer s H E) ⟨K, OpS K, ca⟩ (fun c d _ H => E c d H) (defBody s_is_score) t w_is_score from let ⟨t, h⟩ := h; ⟨t, h.pe, h.sim⟩
  exact ⟨_, (db_cons (ds_if (dt_not (dt_val (de_isi rfl kit_list M.f_isinstance M.f_list (dv 0)))) (db_one (ds_ret de_bl)) db_nil)
      (db_cons (ds_set 1 sc_is_score.nd de_dict0)
      (db_cons (ds_for .leaving rfl (di_enum rfl M.f_enumerate (da_cons (dv 0) da_nil)) (dg_tup (n := 2) rfl rfl (dgs_cons (dg_name 2 sc_is_score.nd) (dgs_cons (dg_name 3 sc_is_score.nd) dgs_nil))) (db_cons (ds_if (dt_not (dt_val (de_callB rfl g_is_item hr tk (da_cons (dv 3) (da_cons (dv 1) da_nil))))) (db_one (ds_ret de_bl)) db_nil)
      (db_one (ds_if (dt_cmp (c_eq rfl hu) (de_ix rfl hu (dv 3) de_int) (de_gstr M.c_MARK)) (db_one (ds_dput hu 1 (de_ix rfl hu (dv 3) de_int) (dv 2))) db_nil))))
      (db_one (ds_ret de_bl)))))⟩
theorem d_require_score {P : Program} {w : World} {K : Fg} {mg : Str → Option Value} {base : Heap} {ca : Str → Addr} {f : Addr} (M : Ms mg) (g_is_score : Gd P w ⟨K, OpS K, ca⟩ mg base 3 "is_score" fs_is_score ["value"] []) (cdv : Value) (A : Around) (outer : List Env) (s : Shared) (H : Hp) (E : XK)
    (hr : Room 3 (A.deeper (PyProof.Rows.envOfC "require_score" (defScope s_require_score) s.heap.objs.size f cdv))) : ∃ t, PSs (cxOf (L2N.CX P w) P w K mg base N_require_score "require_score" (defScope s_require_score) f cdv A outer s H E) (defBody s_require_score) t ∧ SimS ⟨K, OpS K, ca⟩ (fun c d _ H => E c d H) t w_require_score := by
  have hu := hu65 hr
  have tk : L2N.Takes (cxOf (L2N.CX P w) P w K mg base N_require_score "require_score" (defScope s_require_score) f cdv A outer s H E) (fun c d _ H => E c d H) := L2N.takes_of rfl rfl rfl rfl
  suffices h : ∃ t, DB (cxOf (L2N.CX P w) P w K mg base N_require_score "require_score" (defScope s_require_score) f cdv A outer s H E) ⟨K, OpS K, ca⟩ (fun c d _ H => E c d H) (defBody s_require_score) t w_require_score from let ⟨t, h⟩ := h; ⟨t, h.pe, h.sim⟩
  exact ⟨_, (db_one (ds_if (dt_not (dt_val (de_call rfl g_is_score hr tk (da_cons (dv 0) da_nil)))) (db_one ds_never) db_nil))⟩
theorem d_is_repeat {P : Program} {w : World} {K : Fg} {mg : Str → Option Value} {base : Heap} {ca : Str → Addr} {f : Addr} (M : Ms mg) (g_is_integer_0 : Gd P w ⟨K, OpS K, ca⟩ mg base 1 "is_integer" fs_is_integer ["value", "low", "high"] []) (g_is_integer_1 : Gd P w ⟨K, OpS K, ca⟩ mg base 1 "is_integer" fs_is_integer ["value", "low", "high"] [.non]) (cdv : Value) (A : Around) (outer : List Env) (s : Shared) (H : Hp) (E : XK)
    (hr : Room 1 (A.deeper (PyProof.Rows.envOfC "is_repeat" (defScope s_is_repeat) s.heap.objs.size f cdv))) : ∃ t, PSs (cxOf (L2N.CX P w) P w K mg base N_is_repeat "is_repeat" (defScope s_is_repeat) f cdv A outer s H E) (defBody s_is_repeat) t ∧ SimS ⟨K, OpS K, ca⟩ (fun c d _ H => E c d H) t w_is_repeat := by
  have hu := hu65 hr
  have tk : L2N.Takes (cxOf (L2N.CX P w) P w K mg base N_is_repeat "is_repeat" (defScope s_is_repeat) f cdv A outer s H E) (fun c d _ H => E c d H) := L2N.takes_of rfl rfl rfl rfl
  suffices h : ∃ t, DB (cxOf (L2N.CX P w) P w K mg base N_is_repeat "is_repeat" (defScope s_is_repeat) f cdv A outer s H E) ⟨K, OpS K, ca⟩ (fun c d _ H => E c d H) (defBody s_is_repeat) t w_is_repeat from let ⟨t, h⟩ := h; ⟨t, h.pe, h.sim⟩
  exact ⟨_, (db_one (ds_ret (de_and (de_call rfl g_is_integer_0 hr tk (da_cons (dv 1) (da_cons de_int (da_cons (de_sub (de_b (b_len rfl) M.f_len (da_cons (dv 0) da_nil)) de_int) da_nil)))) (de_one (de_cmp (c_eq rfl hu) (de_ix rfl hu (de_ix rfl hu (dv 0) (dv 1)) de_int) (de_gstr M.c_REPEAT))))))⟩
theorem d_is_active_entry {P : Program} {w : World} {K : Fg} {mg : Str → Option Value} {base : Heap} {ca : Str → Addr} {f : Addr} (M : Ms mg) (g_is_integer_0 : Gd P w ⟨K, OpS K, ca⟩ mg base 2 "is_integer" fs_is_integer ["value", "low", "high"] []) (g_is_integer_1 : Gd P w ⟨K, OpS K, ca⟩ mg base 2 "is_integer" fs_is_integer ["value", "low", "high"] [.non]) (g_is_repeat : Gd P w ⟨K, OpS K, ca⟩ mg base 2 "is_repeat" fs_is_repeat ["score", "value"] []) (cdv : Value) (A : Around) (outer : List Env) (s : Shared) (H : Hp) (E : XK)
    (hr : Room 2 (A.deeper (PyProof.Rows.envOfC "is_active_entry" (defScope s_is_active_entry) s.heap.objs.size f cdv))) : ∃ t, PSs (cxOf (L2N.CX P w) P w K mg base N_is_active_entry "is_active_entry" (defScope s_is_active_entry) f cdv A outer s H E) (defBody s_is_active_entry) t ∧ SimS ⟨K, OpS K, ca⟩ (fun c d _ H => E c d H) t w_is_active_entry := by
  have hu := hu65 hr
  have tk : L2N.Takes (cxOf (L2N.CX P w) P w K mg base N_is_active_entry "is_active_entry" (defScope s_is_active_entry) f cdv A outer s H E) (fun c d _ H => E c d H) := L2N.takes_of rfl rfl rfl rfl
  suffices h : ∃ t, DB (cxOf (L2N.CX P w) P w K mg base N_is_active_entry "is_active_entry" (defScope s_is_active_entry) f cdv A outer s H E) ⟨K, OpS K, ca⟩ (fun c d _ H => E c d H) (defBody s_is_active_entry) t w_is_active_entry from let ⟨t, h⟩ := h; ⟨t, h.pe, h.sim⟩
  exact ⟨_, (db_cons (ds_if (dt_chn (dw_or (dt_not (dt_val (de_isi rfl kit_tuple M.f_isinstance M.f_tuple (dv 1)))) (dw_or (dt_cmp (c_ne rfl hu) (de_b (b_len rfl) M.f_len (da_cons (dv 1) da_nil)) de_int) (dw_or1 (dt_not (dt_val (de_call rfl g_is_repeat hr tk (da_cons (dv 0) (da_cons (de_ix rfl hu (dv 1) de_int) da_nil))))))))) (db_one (ds_ret de_bl)) db_nil)
      (db_one (ds_ret (de_call rfl g_is_integer_0 hr tk (da_cons (de_ix rfl hu (dv 1) de_int) (da_cons de_int (da_cons (de_ix rfl hu (de_ix rfl hu (dv 0) (de_ix rfl hu (dv 1) de_int)) de_int) da_nil)))))))⟩
theorem d_mark_indices {P : Program} {w : World} {K : Fg} {mg : Str → Option Value} {base : Heap} {ca : Str → Addr} {f : Addr} (M : Ms mg)  (cdv : Value) (A : Around) (outer : List Env) (s : Shared) (H : Hp) (E : XK)
    (hr : Room 0 (A.deeper (PyProof.Rows.envOfC "mark_indices" (defScope s_mark_indices) s.heap.objs.size f cdv))) : ∃ t, PSs (cxOf (L2N.CX P w) P w K mg base N_mark_indices "mark_indices" (defScope s_mark_indices) f cdv A outer s H E) (defBody s_mark_indices) t ∧ SimS ⟨K, OpS K, ca⟩ (fun c d _ H => E c d H) t w_mark_indices := by
  have hu := hu65 hr
  have tk : L2N.Takes (cxOf (L2N.CX P w) P w K mg base N_mark_indices "mark_indices" (defScope s_mark_indices) f cdv A outer s H E) (fun c d _ H => E c d H) := L2N.takes_of rfl rfl rfl rfl
  suffices h : ∃ t, DB (cxOf (L2N.CX P w) P w K mg base N_mark_indices "mark_indices" (defScope s_mark_indices) f cdv A outer s H E) ⟨K, OpS K, ca⟩ (fun c d _ H => E c d H) (defBody s_mark_indices) t w_mark_indices from let ⟨t, h⟩ := h; ⟨t, h.pe, h.sim⟩
  exact ⟨_, (db_one (ds_ret (de_dc (own := [("index", 1), ("item", 2)]) rfl sc_mark_indices.nd (di_enum rfl M.f_enumerate (da_cons (dv 0) da_nil)) (blkOk_by (N := N_mark_indices) (sc := defScope s_mark_indices) (by decide +kernel)) (by decide) (fun _ _ _ _ _ => (dgw_tup (n := 2) rfl rfl (dgsw_cons (dgw_name 1 sc_mark_indices.nd) (dgsw_cons (dgw_name 2 sc_mark_indices.nd) dgsw_nil)))) (fun _ _ _ _ _ => (dts_one (dt_cmp (c_eq rfl hu) (de_ix rfl hu (dv 2) de_int) (de_gstr M.c_MARK)))) (fun _ _ _ _ _ => (de_ix rfl hu (dv 2) de_int)) (fun _ _ _ _ _ => (dv 1)))))⟩
theorem d_segment_starts {P : Program} {w : World} {K : Fg} {mg : Str → Option Value} {base : Heap} {ca : Str → Addr} {f : Addr} (M : Ms mg) (g_mark_indices : Gd P w ⟨K, OpS K, ca⟩ mg base 1 "mark_indices" fs_mark_indices ["score"] []) (cdv : Value) (A : Around) (outer : List Env) (s : Shared) (H : Hp) (E : XK)
    (hr : Room 1 (A.deeper (PyProof.Rows.envOfC "segment_starts" (defScope s_segment_starts) s.heap.objs.size f cdv))) : ∃ t, PSs (cxOf (L2N.CX P w) P w K mg base N_segment_starts "segment_starts" (defScope s_segment_starts) f cdv A outer s H E) (defBody s_segment_starts) t ∧ SimS ⟨K, OpS K, ca⟩ (fun c d _ H => E c d H) t w_segment_starts := by
  have hu := hu65 hr
  have tk : L2N.Takes (cxOf (L2N.CX P w) P w K mg base N_segment_starts "segment_starts" (defScope s_segment_starts) f cdv A outer s H E) (fun c d _ H => E c d H) := L2N.takes_of rfl rfl rfl rfl
  suffices h : ∃ t, DB (cxOf (L2N.CX P w) P w K mg base N_segment_starts "segment_starts" (defScope s_segment_starts) f cdv A outer s H E) ⟨K, OpS K, ca⟩ (fun c d _ H => E c d H) (defBody s_segment_starts) t w_segment_starts from let ⟨t, h⟩ := h; ⟨t, h.pe, h.sim⟩
  exact ⟨_, (db_cons (ds_set 1 sc_segment_starts.nd (de_call rfl g_mark_indices hr tk (da_cons (dv 0) da_nil)))
      (db_one (ds_ret (de_dc (own := [("index", 2), ("item", 3)]) rfl sc_segment_starts.nd (di_enum rfl M.f_enumerate (da_cons (dv 0) da_nil)) (blkOk_by (N := N_segment_starts) (sc := defScope s_segment_starts) (by decide +kernel)) (by decide) (fun _ _ _ _ _ => (dgw_tup (n := 2) rfl rfl (dgsw_cons (dgw_name 2 sc_segment_starts.nd) (dgsw_cons (dgw_name 3 sc_segment_starts.nd) dgsw_nil)))) (fun _ _ _ _ _ => (dts_one (dt_cmp (c_eq rfl hu) (de_ix rfl hu (dv 3) de_int) (de_gstr M.c_REPEAT)))) (fun _ _ _ _ _ => (dv 2)) (fun _ _ _ _ _ => (de_add rfl (de_ix rfl hu (dv 1) (de_ix rfl hu (dv 3) de_int)) de_int))))))⟩
theorem d_is_state_of {P : Program} {w : World} {K : Fg} {mg : Str → Option Value} {base : Heap} {ca : Str → Addr} {f : Addr} (M : Ms mg) (g_is_active_entry : Gd P w ⟨K, OpS K, ca⟩ mg base 3 "is_active_entry" fs_is_active_entry ["score", "value"] []) (g_is_integer_0 : Gd P w ⟨K, OpS K, ca⟩ mg base 3 "is_integer" fs_is_integer ["value", "low", "high"] []) (g_is_integer_1 : Gd P w ⟨K, OpS K, ca⟩ mg base 3 "is_integer" fs_is_integer ["value", "low", "high"] [.non]) (g_segment_starts : Gd P w ⟨K, OpS K, ca⟩ mg base 3 "segment_starts" fs_segment_starts ["score"] []) (cdv : Value) (A : Around) (outer : List Env) (s : Shared) (H : Hp) (E : XK)
    (hr : Room 3 (A.deeper (PyProof.Rows.envOfC "is_state_of" (defScope s_is_state_of) s.heap.objs.size f cdv))) : ∃ t, PSs (cxOf (L2N.CX P w) P w K mg base N_is_state_of "is_state_of" (defScope s_is_state_of) f cdv A outer s H E) (defBody s_is_state_of) t ∧ SimS ⟨K, OpS K, ca⟩ (fun c d _ H => E c d H) t w_is_state_of := by
  have hu := hu65 hr
  have tk : L2N.Takes (cxOf (L2N.CX P w) P w K mg base N_is_state_of "is_state_of" (defScope s_is_state_of) f cdv A outer s H E) (fun c d _ H => E c d H) := L2N.takes_of rfl rfl rfl rfl
  suffices h : ∃ t, DB (cxOf (L2N.CX P w) P w K mg base N_is_state_of "is_state_of" (defScope s_is_state_of) f cdv A outer s H E) ⟨K, OpS K, ca⟩ (fun c d _ H => E c d H) (defBody s_is_state_of) t w_is_state_of from let ⟨t, h⟩ := h; ⟨t, h.pe, h.sim⟩
  exact ⟨_, (db_cons (ds_if (dt_chn (dw_or (dt_not (dt_val (de_isi rfl kit_tuple M.f_isinstance M.f_tuple (dv 1)))) (dw_or (dt_cmp (c_ne rfl hu) (de_b (b_len rfl) M.f_len (da_cons (dv 1) da_nil)) de_int) (dw_or1 (dt_not (dt_val (de_call rfl g_is_integer_0 hr tk (da_cons (de_ix rfl hu (dv 1) de_int) (da_cons de_int (da_cons (de_b (b_len rfl) M.f_len (da_cons (dv 0) da_nil)) da_nil)))))))))) (db_one (ds_ret de_bl)) db_nil)
      (db_cons (ds_asg (dv 1) (dg_tup (n := 2) rfl rfl (dgs_cons (dg_name 2 sc_is_state_of.nd) (dgs_cons (dg_name 3 sc_is_state_of.nd) dgs_nil))))
      (db_cons (ds_if (dt_chn (dw_or (dt_not (dt_val (de_isi rfl kit_list M.f_isinstance M.f_list (dv 3)))) (dw_or1 (dt_not (dt_val (de_b (b_all rfl rfl) M.f_all (da_cons (de_lc (own := [("entry", 9)]) rfl sc_is_state_of.nd (di_list rfl (dv 3)) (blkOk_by (N := N_is_state_of) (sc := defScope s_is_state_of) (by decide +kernel)) (by decide) (fun _ _ _ _ _ => (dgw_name 9 sc_is_state_of.nd)) (fun _ _ _ _ _ => dts_nil) (fun _ _ _ _ _ => (de_call rfl g_is_active_entry hr takes0N (da_cons (dv 0) (da_cons (dv 9) da_nil))))) da_nil))))))) (db_one (ds_ret de_bl)) db_nil)
      (db_cons (ds_set 4 sc_is_state_of.nd (de_call rfl g_segment_starts hr tk (da_cons (dv 0) da_nil)))
      (db_cons (ds_par 5 6 rfl sc_is_state_of.nd (dl_cons (dv 2) (dl_cons (dv 2) dl_nil)))
      (db_cons (ds_for .leaving rfl (di_list rfl (dv 3)) (dg_tup (n := 2) rfl rfl (dgs_cons (dg_name 7 sc_is_state_of.nd) (dgs_cons (dg_name 8 sc_is_state_of.nd) dgs_nil))) (db_cons (ds_if (dt_chn (dw_or (dt_cmp c_lt (dv 7) (dv 6)) (dw_or1 (dt_cmp c_gt (de_ix rfl hu (dv 4) (dv 7)) (dv 5))))) (db_one (ds_ret de_bl)) db_nil)
      (db_one (ds_par 5 6 rfl sc_is_state_of.nd (dl_cons (dv 7) (dl_cons (de_add rfl (dv 7) de_int) dl_nil))))))
      (db_one (ds_ret de_bl))))))))⟩
theorem d_require_state {P : Program} {w : World} {K : Fg} {mg : Str → Option Value} {base : Heap} {ca : Str → Addr} {f : Addr} (M : Ms mg) (g_is_state_of : Gd P w ⟨K, OpS K, ca⟩ mg base 4 "is_state_of" fs_is_state_of ["score", "value"] []) (cdv : Value) (A : Around) (outer : List Env) (s : Shared) (H : Hp) (E : XK)
    (hr : Room 4 (A.deeper (PyProof.Rows.envOfC "require_state" (defScope s_require_state) s.heap.objs.size f cdv))) : ∃ t, PSs (cxOf (L2N.CX P w) P w K mg base N_require_state "require_state" (defScope s_require_state) f cdv A outer s H E) (defBody s_require_state) t ∧ SimS ⟨K, OpS K, ca⟩ (fun c d _ H => E c d H) t w_require_state := by
  have hu := hu65 hr
  have tk : L2N.Takes (cxOf (L2N.CX P w) P w K mg base N_require_state "require_state" (defScope s_require_state) f cdv A outer s H E) (fun c d _ H => E c d H) := L2N.takes_of rfl rfl rfl rfl
  suffices h : ∃ t, DB (cxOf (L2N.CX P w) P w K mg base N_require_state "require_state" (defScope s_require_state) f cdv A outer s H E) ⟨K, OpS K, ca⟩ (fun c d _ H => E c d H) (defBody s_require_state) t w_require_state from let ⟨t, h⟩ := h; ⟨t, h.pe, h.sim⟩
  exact ⟨_, (db_one (ds_if (dt_not (dt_val (de_call rfl g_is_state_of hr tk (da_cons (dv 0) (da_cons (dv 1) da_nil))))) (db_one ds_never) db_nil))⟩
theorem d_counter_here {P : Program} {w : World} {K : Fg} {mg : Str → Option Value} {base : Heap} {ca : Str → Addr} {f : Addr} (M : Ms mg)  (cdv : Value) (A : Around) (outer : List Env) (s : Shared) (H : Hp) (E : XK)
    (hr : Room 0 (A.deeper (PyProof.Rows.envOfC "counter_here" (defScope s_counter_here) s.heap.objs.size f cdv))) : ∃ t, PSs (cxOf (L2N.CX P w) P w K mg base N_counter_here "counter_here" (defScope s_counter_here) f cdv A outer s H E) (defBody s_counter_here) t ∧ SimS ⟨K, OpS K, ca⟩ (fun c d _ H => E c d H) t w_counter_hereD := by
  have hu := hu65 hr
  have tk : L2N.Takes (cxOf (L2N.CX P w) P w K mg base N_counter_here "counter_here" (defScope s_counter_here) f cdv A outer s H E) (fun c d _ H => E c d H) := L2N.takes_of rfl rfl rfl rfl
  suffices h : ∃ t, DB (cxOf (L2N.CX P w) P w K mg base N_counter_here "counter_here" (defScope s_counter_here) f cdv A outer s H E) ⟨K, OpS K, ca⟩ (fun c d _ H => E c d H) (defBody s_counter_here) t w_counter_hereD from let ⟨t, h⟩ := h; ⟨t, h.pe, h.sim⟩
  exact ⟨_, (db_cons (ds_asg (dv 0) (dg_tup (n := 2) rfl rfl (dgs_cons (dg_name 1 sc_counter_here.nd) (dgs_cons (dg_name 2 sc_counter_here.nd) dgs_nil))))
      (db_cons (ds_if (dt_chn (dw_and (dt_cmp (c_ne rfl hu) (dv 2) (de_lst da_nil)) (dw_and1 (dt_cmp (c_eq rfl hu) (de_ix rfl hu (de_ix rfl hu (dv 2) de_int) de_int) (dv 1))))) (db_one (ds_ret (de_tupD rfl (de_ix rfl hu (de_ix rfl hu (dv 2) de_int) de_int) (de_slL rfl (dv 2) (do_some de_int) do_none)))) db_nil)
      (db_one (ds_ret (de_tupD rfl de_int (de_t (t_list rfl) M.f_list (da_cons (dv 2) da_nil)))))))⟩
theorem d_step_from {P : Program} {w : World} {K : Fg} {mg : Str → Option Value} {base : Heap} {ca : Str → Addr} {f : Addr} (M : Ms mg) (g_counter_here : Gd P w ⟨K, OpS K, ca⟩ mg base 1 "counter_here" fs_counter_hereD ["state"] []) (cdv : Value) (A : Around) (outer : List Env) (s : Shared) (H : Hp) (E : XK)
    (hr : Room 1 (A.deeper (PyProof.Rows.envOfC "step_from" (defScope s_step_from) s.heap.objs.size f cdv))) : ∃ t, PSs (cxOf (L2N.CX P w) P w K mg base N_step_from "step_from" (defScope s_step_from) f cdv A outer s H E) (defBody s_step_from) t ∧ SimS ⟨K, OpS K, ca⟩ (fun c d _ H => E c d H) t w_step_fromD := by
  have hu := hu65 hr
  have tk : L2N.Takes (cxOf (L2N.CX P w) P w K mg base N_step_from "step_from" (defScope s_step_from) f cdv A outer s H E) (fun c d _ H => E c d H) := L2N.takes_of rfl rfl rfl rfl
  suffices h : ∃ t, DB (cxOf (L2N.CX P w) P w K mg base N_step_from "step_from" (defScope s_step_from) f cdv A outer s H E) ⟨K, OpS K, ca⟩ (fun c d _ H => E c d H) (defBody s_step_from) t w_step_fromD from let ⟨t, h⟩ := h; ⟨t, h.pe, h.sim⟩
  exact ⟨_, (db_cons (ds_asg (dv 2) (dg_tup (n := 2) rfl rfl (dgs_cons (dg_name 3 sc_step_from.nd) (dgs_cons (dg_name 4 sc_step_from.nd) dgs_nil))))
      (db_cons (ds_set 5 sc_step_from.nd (de_ix rfl hu (dv 0) (dv 3)))
      (db_cons (ds_if (dt_cmp (c_ne rfl hu) (de_ix rfl hu (dv 5) de_int) (de_gstr M.c_REPEAT)) (db_one (ds_ret (de_tupD rfl (de_if (dt_cmp (c_eq rfl hu) (de_ix rfl hu (dv 5) de_int) (de_gstr M.c_BAR)) (de_gstr M.c_PLAY) (de_gstr M.c_PASS)) (de_tupD rfl (de_add rfl (dv 3) de_int) (de_t (t_list rfl) M.f_list (da_cons (dv 4) da_nil)))))) db_nil)
      (db_cons (ds_asg5 rfl 6 7 (de_call rfl g_counter_here hr tk (da_cons (dv 2) da_nil)) (dg_tup (n := 2) rfl rfl (dgs_cons (dg_name 6 sc_step_from.nd) (dgs_cons (dg_name 7 sc_step_from.nd) dgs_nil))))
      (db_cons (ds_if (dt_cmp c_lt (dv 6) (de_ix rfl hu (dv 5) de_int)) (db_one (ds_ret (de_tupD rfl (de_gstr M.c_JUMP) (de_tupD rfl (de_ix rfl hu (dv 1) (dv 3)) (de_add rfl (de_lst (da_cons (de_tup (da_cons (dv 3) (da_cons (de_add rfl (dv 6) de_int) da_nil))) da_nil)) (dv 7)))))) db_nil)
      (db_one (ds_ret (de_tupD rfl (de_gstr M.c_CONTINUE) (de_tupD rfl (de_add rfl (dv 3) de_int) (de_own (dv 7)))))))))))⟩
theorem d_next_step {P : Program} {w : World} {K : Fg} {mg : Str → Option Value} {base : Heap} {ca : Str → Addr} {f : Addr} (M : Ms mg) (g_require_score : Gd P w ⟨K, OpS K, ca⟩ mg base 5 "require_score" fs_require_score ["score"] []) (g_require_state : Gd P w ⟨K, OpS K, ca⟩ mg base 5 "require_state" fs_require_state ["score", "state"] []) (g_segment_starts : Gd P w ⟨K, OpS K, ca⟩ mg base 5 "segment_starts" fs_segment_starts ["score"] []) (g_step_from : Gd P w ⟨K, OpS K, ca⟩ mg base 5 "step_from" fs_step_fromD ["score", "starts", "state"] []) (cdv : Value) (A : Around) (outer : List Env) (s : Shared) (H : Hp) (E : XK)
    (hr : Room 5 (A.deeper (PyProof.Rows.envOfC "next_step" (defScope s_next_step) s.heap.objs.size f cdv))) : ∃ t, PSs (cxOf (L2N.CX P w) P w K mg base N_next_step "next_step" (defScope s_next_step) f cdv A outer s H E) (defBody s_next_step) t ∧ SimS ⟨K, OpS K, ca⟩ (fun c d _ H => E c d H) t w_next_stepD := by
  have hu := hu65 hr
  have tk : L2N.Takes (cxOf (L2N.CX P w) P w K mg base N_next_step "next_step" (defScope s_next_step) f cdv A outer s H E) (fun c d _ H => E c d H) := L2N.takes_of rfl rfl rfl rfl
  suffices h : ∃ t, DB (cxOf (L2N.CX P w) P w K mg base N_next_step "next_step" (defScope s_next_step) f cdv A outer s H E) ⟨K, OpS K, ca⟩ (fun c d _ H => E c d H) (defBody s_next_step) t w_next_stepD from let ⟨t, h⟩ := h; ⟨t, h.pe, h.sim⟩
  exact ⟨_, (db_cons (ds_expr (de_call rfl g_require_score hr tk (da_cons (dv 0) da_nil)))
      (db_cons (ds_expr (de_call rfl g_require_state hr tk (da_cons (dv 0) (da_cons (dv 1) da_nil))))
      (db_one (ds_ret (de_if (dt_cmp (c_eq rfl hu) (de_ix rfl hu (dv 1) de_int) (de_b (b_len rfl) M.f_len (da_cons (dv 0) da_nil))) de_non (de_call rfl g_step_from hr tk (da_cons (dv 0) (da_cons (de_call rfl g_segment_starts hr tk (da_cons (dv 0) da_nil)) (da_cons (dv 1) da_nil)))))))))⟩
theorem d_previous_state {P : Program} {w : World} {K : Fg} {mg : Str → Option Value} {base : Heap} {ca : Str → Addr} {f : Addr} (M : Ms mg) (g_require_score : Gd P w ⟨K, OpS K, ca⟩ mg base 5 "require_score" fs_require_score ["score"] []) (g_require_state : Gd P w ⟨K, OpS K, ca⟩ mg base 5 "require_state" fs_require_state ["score", "state"] []) (g_segment_starts : Gd P w ⟨K, OpS K, ca⟩ mg base 5 "segment_starts" fs_segment_starts ["score"] []) (cdv : Value) (A : Around) (outer : List Env) (s : Shared) (H : Hp) (E : XK)
    (hr : Room 5 (A.deeper (PyProof.Rows.envOfC "previous_state" (defScope s_previous_state) s.heap.objs.size f cdv))) : ∃ t, PSs (cxOf (L2N.CX P w) P w K mg base N_previous_state "previous_state" (defScope s_previous_state) f cdv A outer s H E) (defBody s_previous_state) t ∧ SimS ⟨K, OpS K, ca⟩ (fun c d _ H => E c d H) t w_previous_stateD := by
  have hu := hu65 hr
  have tk : L2N.Takes (cxOf (L2N.CX P w) P w K mg base N_previous_state "previous_state" (defScope s_previous_state) f cdv A outer s H E) (fun c d _ H => E c d H) := L2N.takes_of rfl rfl rfl rfl
  suffices h : ∃ t, DB (cxOf (L2N.CX P w) P w K mg base N_previous_state "previous_state" (defScope s_previous_state) f cdv A outer s H E) ⟨K, OpS K, ca⟩ (fun c d _ H => E c d H) (defBody s_previous_state) t w_previous_stateD from let ⟨t, h⟩ := h; ⟨t, h.pe, h.sim⟩
  exact ⟨_, (db_cons (ds_expr (de_call rfl g_require_score hr tk (da_cons (dv 0) da_nil)))
      (db_cons (ds_expr (de_call rfl g_require_state hr tk (da_cons (dv 0) (da_cons (dv 1) da_nil))))
      (db_cons (ds_asg (dv 1) (dg_tup (n := 2) rfl rfl (dgs_cons (dg_name 2 sc_previous_state.nd) (dgs_cons (dg_name 3 sc_previous_state.nd) dgs_nil))))
      (db_cons (ds_if (dt_chn (dw_and (dt_cmp (c_ne rfl hu) (dv 3) (de_lst da_nil)) (dw_and1 (dt_cmp (c_eq rfl hu) (de_ix rfl hu (de_call rfl g_segment_starts hr tk (da_cons (dv 0) da_nil)) (de_ix rfl hu (de_ix rfl hu (dv 3) de_int) de_int)) (dv 2))))) (db_cons (ds_asg (de_ix rfl hu (dv 3) de_int) (dg_tup (n := 2) rfl rfl (dgs_cons (dg_name 4 sc_previous_state.nd) (dgs_cons (dg_name 5 sc_previous_state.nd) dgs_nil))))
      (db_one (ds_ret (de_tupD rfl (dv 4) (de_add rfl (de_if (dt_cmp c_gt (dv 5) de_int) (de_lst (da_cons (de_tup (da_cons (dv 4) (da_cons (de_sub (dv 5) de_int) da_nil))) da_nil)) (de_lst da_nil)) (de_slL rfl (dv 3) (do_some de_int) do_none)))))) db_nil)
      (db_cons (ds_if (dt_cmp (c_eq rfl hu) (dv 2) de_int) (db_one (ds_ret de_non)) db_nil)
      (db_cons (ds_set 6 sc_previous_state.nd (de_ix rfl hu (dv 0) (de_sub (dv 2) de_int)))
      (db_one (ds_ret (de_tupD rfl (de_sub (dv 2) de_int) (de_add rfl (de_if (dt_cmp (c_eq rfl hu) (de_ix rfl hu (dv 6) de_int) (de_gstr M.c_REPEAT)) (de_lst (da_cons (de_tup (da_cons (de_sub (dv 2) de_int) (da_cons (de_ix rfl hu (dv 6) de_int) da_nil))) da_nil)) (de_lst da_nil)) (dv 3)))))))))))⟩
theorem d_law {P : Program} {w : World} {K : Fg} {mg : Str → Option Value} {base : Heap} {ca : Str → Addr} {f : Addr} (M : Ms mg) (g_law_deck : Gd P w ⟨K, OpS K, ca⟩ mg base 7 "_law_deck" fs_law_deck ["_law_script"] []) (g_law_draw : Gd P w ⟨K, OpS K, ca⟩ mg base 7 "_law_draw" fs_law_drawX ["_law_deck_here", "_law_many"] []) (g_law_same : Gd P w ⟨K, OpS K, ca⟩ mg base 7 "_law_same" fs_law_same ["_law_found", "_law_due"] []) (g_law_small : Gd P w ⟨K, OpS K, ca⟩ mg base 7 "_law_small" fs_law_small ["_law_deck_here", "_law_bound"] []) (g_law_walk : Gd P w ⟨K, OpS K, ca⟩ mg base 7 "_law_walk" fs_law_walkK ["_law_items_here"] []) (g_next_step : Gd P w ⟨K, OpS K, ca⟩ mg base 7 "next_step" fs_next_stepD ["score", "state"] []) (g_previous_state : Gd P w ⟨K, OpS K, ca⟩ mg base 7 "previous_state" fs_previous_stateD ["score", "state"] []) (k_next_step : GdK P w ⟨K, OpS K, ca⟩ mg base 7 "next_step" fs_next_stepD ["score", "state"] ["state", "score"] [1, 0]) (k_previous_state : GdK P w ⟨K, OpS K, ca⟩ mg base 7 "previous_state" fs_previous_stateD ["score", "state"] ["state", "score"] [1, 0]) (hnd : base.NoDigits) (cdv : Value) (s : Shared) (H : Hp) (E : XK)
    (hr : Room 7 (callerA.deeper (PyProof.Rows.envOfC "law" (defScope s_law) s.heap.objs.size f cdv))) : ∃ t, PSs (cxOf (L2N.CX P w) P w K mg base N_law "law" (defScope s_law) f cdv callerA [] s H E) (defBody s_law) t ∧ SimS ⟨K, OpS K, ca⟩ (fun c d _ H => E c d H) t w_law := by
  have hu := hu65 hr
  have hgd : (cxOf (L2N.CX P w) P w K mg base N_law "law" (defScope s_law) f cdv callerA [] s H E).A.guards = some [] := rfl
  have tk : L2N.Takes (cxOf (L2N.CX P w) P w K mg base N_law "law" (defScope s_law) f cdv callerA [] s H E) (fun c d _ H => E c d H) := L2N.takes_of rfl rfl rfl rfl
  suffices h : ∃ t, DB (cxOf (L2N.CX P w) P w K mg base N_law "law" (defScope s_law) f cdv callerA [] s H E) ⟨K, OpS K, ca⟩ (fun c d _ H => E c d H) (defBody s_law) t w_law from let ⟨t, h⟩ := h; ⟨t, h.pe, h.sim⟩
  exact ⟨_, (db_cons (ds_deck 1 0 rfl sc_law.nd g_law_deck hr tk)
      (db_cons (ds_for .leaving rfl (di_range1 M.f_range (da_cons de_int da_nil)) (dg_name 2 sc_law.nd) (db_cons (ds_set 3 sc_law.nd (de_callIo rfl 1 g_law_small hr tk (da_cons de_int da_nil)))
      (db_cons (ds_set 4 sc_law.nd (de_call rfl g_law_walk hr tk (da_cons (dv 3) da_nil)))
      (db_cons (ds_set 5 sc_law.nd (de_b (b_reprB rfl hgd hu hnd) M.f_repr (da_cons (dv 3) da_nil)))
      (db_cons (ds_set 6 sc_law.nd (de_add rfl (de_add rfl (de_listR rfl M.f_list M.f_range (de_b (b_min rfl) M.f_min (da_cons de_int (da_cons (de_b (b_len rfl) M.f_len (da_cons (dv 4) da_nil)) da_nil)))) (de_lc (own := [("_law_k", 16)]) rfl sc_law.nd (di_range1 M.f_range (da_cons de_int da_nil)) (blkOk_by (N := N_law) (sc := defScope s_law) (by decide +kernel)) (by decide) (fun _ _ _ _ _ => (dgw_name 16 sc_law.nd)) (fun _ _ _ _ _ => dts_nil) (fun _ _ _ _ _ => (de_callIo rfl 1 g_law_draw hr takes0N (da_cons (de_b (b_len rfl) M.f_len (da_cons (dv 4) da_nil)) da_nil))))) (de_lst (da_cons (de_sub (de_b (b_len rfl) M.f_len (da_cons (dv 4) da_nil)) de_int) da_nil))))
      (db_one (ds_for .leaving rfl (di_list rfl (dv 6)) (dg_name 7 sc_law.nd) (db_cons (ds_asg (de_ix rfl hu (dv 4) (dv 7)) (dg_lst (n := 2) rfl rfl (dgs_cons (dg_name 8 sc_law.nd) (dgs_cons (dg_name 9 sc_law.nd) dgs_nil))))
      (db_cons (ds_set 10 sc_law.nd (de_b (b_reprB rfl hgd hu hnd) M.f_repr (da_cons (dv 8) da_nil)))
      (db_cons (ds_set 11 sc_law.nd (de_if (dt_cmp c_isN (dv 9) de_non) de_non (de_tup (da_cons (dv 9) (da_cons (de_ix rfl hu (de_ix rfl hu (dv 4) (de_add rfl (dv 7) de_int)) de_int) da_nil)))))
      (db_cons (ds_set 12 sc_law.nd (de_if (dt_cmp c_gt (dv 7) de_int) (de_ix rfl hu (de_ix rfl hu (dv 4) (de_sub (dv 7) de_int)) de_int) de_non))
      (db_cons (ds_par 13 14 rfl sc_law.nd (dl_cons (de_call rfl g_next_step hr tk (da_cons (dv 3) (da_cons (dv 8) da_nil))) (dl_cons (de_call rfl g_previous_state hr tk (da_cons (dv 3) (da_cons (dv 8) da_nil))) dl_nil)))
      (db_cons (ds_if (dt_chn (dw_or (dt_not (dt_val (de_fz5 rfl (de_call rfl g_law_same hr tk (da_cons (de_lst (da_cons (dv 13) (da_cons (dv 14) da_nil))) (da_cons (de_lst (da_cons (dv 11) (da_cons (dv 12) da_nil))) da_nil)))))) (dw_or1 (dt_cmp c_neS (de_b (b_reprB rfl hgd hu hnd) M.f_repr (da_cons (dv 8) da_nil)) (dv 10))))) (db_one (ds_ret de_bl)) db_nil)
      (db_cons (ds_if (dt_notNV 13) (db_one (ds_expr (de_nap 2 rfl rfl 13 (de_ix rfl hu (de_ix rfl hu (dv 13) de_int) de_int)))) db_nil)
      (db_cons (ds_if (dt_notNV 14) (db_one (ds_expr (de_nap 1 rfl rfl 14 (de_ix rfl hu (dv 14) de_int)))) db_nil)
      (db_cons (ds_if (dt_chn (dw_or (dt_cmp c_neS (de_b (b_reprB rfl hgd hu hnd) M.f_repr (da_cons (dv 8) da_nil)) (dv 10)) (dw_or1 (dt_cmp c_neS (de_b (b_reprB rfl hgd hu hnd) M.f_repr (da_cons (dv 3) da_nil)) (dv 5))))) (db_one (ds_ret de_bl)) db_nil)
      (db_cons (ds_set 15 sc_law.nd (de_lst (da_cons (de_callKw rfl k_next_step hr tk (dk_cons (dv 8) (dk_cons (dv 3) dk_nil))) (da_cons (de_callKw rfl k_previous_state hr tk (dk_cons (dv 8) (dk_cons (dv 3) dk_nil))) da_nil))))
      (db_one (ds_if (dt_not (dt_val (de_fz5 rfl (de_call rfl g_law_same hr tk (da_cons (dv 15) (da_cons (de_lst (da_cons (dv 11) (da_cons (dv 12) da_nil))) da_nil)))))) (db_one (ds_ret de_bl)) db_nil)))))))))))))))))))
      (db_one (ds_ret (de_and (de_cmp c_isN (de_call rfl g_next_step hr tk (da_cons (de_lst da_nil) (da_cons (de_tup (da_cons de_int (da_cons (de_lst da_nil) da_nil))) da_nil))) de_non) (de_one (de_cmp c_isN (de_call rfl g_previous_state hr tk (da_cons (de_lst da_nil) (da_cons (de_tup (da_cons de_int (da_cons (de_lst da_nil) da_nil))) da_nil))) de_non)))))))⟩
end K05

set_option Elab.async false
set_option linter.all false
set_option maxRecDepth 100000
set_option maxHeartbeats 2000000
namespace VL
open PySem L2 PyProof.Rows
section
variable {P : Program} {w : World} {K : Fg} {mg mb : Str → Option Value}
theorem law_endsB {k : Nat} {fa a : Addr} {fd : FuncData} {y : Str} {s₁ : Shared} {vs : List Value} {ns : List Int}
    (KX : K.In s₁.heap) (hns : s₁.heap.Ns mainGlobals mg) (hb : s₁.heap.Ns builtinsNs mb) (hbb : ∀ x : Str, x ≠ "__name__" → mb x = bootBuiltins x) (hlim : s₁.heap.NoLimit) (hdig : s₁.heap.NoDigits) (hg : s₁.gens = #[])
    (ha : s₁.heap.get? a = some { cls := .type "list", data := .seq vs.toArray }) (hi : IntsAre vs ns) (hl : ns.length ≤ 63) (hr : Room k callerA)
    (F : ∀ base : Heap, K.In base → base.Ns mainGlobals mg → base.NoDigits → LawRuns P w K mg base k fa fd y) (hbind : ∀ (s : Shared) (u : Value), BindsTo s fd ⟨[u], []⟩ [(y, u)]) :
    codeAny (model P w) callerA (.call (.ref fa) ⟨[.ref a], []⟩) (fun r s' => r = .ok (.ret (.bool true)) ∧ OldK s₁.heap s'.heap ∧ s'.os = s₁.os ∧ AllBare s'.gens) s₁ := by
  have hlz : ns.length ≤ sizeLine := by rw [sizeLine_eq]; omega
  -- one road for both abstract heaps: H tracks the script, frozen, or nothing
  have road : ∀ H : Hp, (∀ b u, H b = some u → b = a ∧ K.lookup a = none ∧ u = .frz { cls := .type "list", data := .seq vs.toArray } (.lst (ns.map V.int))) → SqL K H a (ns.map V.int) →
      codeAny (model P w) callerA (.call (.ref fa) ⟨[.ref a], []⟩) (fun r s' => r = .ok (.ret (.bool true)) ∧ OldK s₁.heap s'.heap ∧ s'.os = s₁.os ∧ AllBare s'.gens) s₁ := by
    intro H hH hS
    have free : ∀ {b : Addr}, b ≠ a → H b = none := fun {b} hb => by
      cases q : H b with
      | none => rfl
      | some u => exact absurd (hH b u q).1 hb
    have hok : HOk P w H s₁.heap := fun b u q => by
      obtain ⟨rfl, _, rfl⟩ := hH b u q
      exact ⟨ha, by rw [List.length_map]; exact hlz, vs, _, vals_ints hi, ha⟩
    have nsK : ∀ {b : Addr} {m : Str → Option Value}, s₁.heap.Ns b m → (hidT s₁.heap H).Ns b m := fun {b m} ⟨o, es, ep, e, d, r⟩ =>
      ⟨o, es, ep, hidT_get e (free fun z => by
        rw [z, ha] at e
        cases e
        have d' : Data.seq vs.toArray _ = Data.dict es ep := d
        cases d'), d, r⟩
    have hKb : K.In (hidT s₁.heap H) := fun b o e => hidT_get (KX b o e) (by
      cases q : H b with
      | none => rfl
      | some u =>
        obtain ⟨rfl, hk, _⟩ := hH b u q
        rw [hk] at e; cases e)
    obtain ⟨mc, l1, l2⟩ := hlim
    obtain ⟨md, l3, l4⟩ := hdig
    have e0 : Env0 P w K mg (hidT s₁.heap H) callerA [] s₁ H :=
      ⟨rfl, ⟨hKb, nsK hns, ⟨mb, nsK hb, hbb⟩, ⟨mc, nsK l1, l2⟩⟩, fun b o e => of_hidT e, Nat.le_of_eq (hidT_size _ _), trivial, fun b hb => absurd (show b ∈ ([] : List Addr) from hb) (by simp), hok, .of_eq hg⟩
    refine codeAny_mono (F _ hKb (nsK hns) ⟨md, nsK l3, l4⟩ s₁ H ⟨[.ref a], []⟩ [.ref a] [.ref a] _ _ hr e0 (hbind s₁ (.ref a)) (.cons rfl .nil) (law_sp hl hS)) fun r s' h => ?_
    cases r with
    | error e =>
      obtain ⟨_, _, _, _, _, _, _, _, _, _, _, _, z⟩ := h
      exact z.elim
    | ok fl =>
      cases fl with
      | next => exact False.elim h
      | brk => exact False.elim h
      | cont => exact False.elim h
      | ret u =>
        obtain ⟨v, H', os, bare, un, hok', rv, q⟩ := h
        cases (show v = .bl true from q)
        cases (show u = Value.bool true from rv)
        refine ⟨rfl, OldK.of_keep fun b o e => ?_, os, bare⟩
        cases qb : H b with
        | none => exact un.keep b o e qb (by intro z; exact absurd (show b ∈ ([] : List Addr) from z) (by simp)) (by simp)
        | some u =>
          obtain ⟨rfl, _, rfl⟩ := hH b u qb
          obtain ⟨e1, _⟩ := hok b _ qb
          obtain ⟨e2, _⟩ := hok' b _ (un.frzs b _ _ qb)
          rw [e1] at e; cases e
          exact e2
  cases hk : K.lookup a with
  | some o =>
    have e := KX a o hk
    rw [ha] at e
    cases e
    exact road (fun _ => none) (fun b u z => by cases (show (none : Option HO) = some u from z)) (.inr ⟨_, vs.toArray, _, hk, rfl, rfl, rfl, by rw [List.size_toArray, hi.length]; exact hlz, by simpa using vals_ints hi⟩)
  | none =>
    refine road (fun b => if b = a then some (.frz { cls := .type "list", data := .seq vs.toArray } (.lst (ns.map V.int))) else none) (fun b u z => ?_) (.inl (.inr ⟨_, if_pos rfl⟩))
    by_cases hb : b = a
    · rw [if_pos hb] at z
      exact ⟨hb, hk, (Option.some.inj z).symm⟩
    · rw [if_neg hb] at z; cases z
end
theorem walk_lawB {l : PySem.W.OpenLaw} {k : Nat} {q : Program} {loose : List Str} {XP : (Str → Option Value) → Heap → Prop} {YP : World → Heap → Prop} {d : DefRec} {y : Str}
    (hn : l.most = some 63) (hdf : d.params.defaults = []) (hr : Room k callerA)
    (F : ∀ (w : World) (mg : Str → Option Value) (fa : Addr) (h : Heap), YP w h → h.Ns mainGlobals mg → mg d.name = some (.ref fa) →
      ∃ (K : Fg) (fd : FuncData), K.In h ∧ (∀ (s : Shared) (u : Value), BindsTo s fd ⟨[u], []⟩ [(y, u)]) ∧ ∀ base : Heap, K.In base → base.Ns mainGlobals mg → base.NoDigits → LawRuns l.prog w K mg base k fa fd y) :
    PySem.W.WalkO q loose XP YP l.row.toRowW d [] (fun f vs => PySem.call f vs) := by
  refine Att.attach_call hn hdf fun w s₀ s₁ mg mb fa o pm cd doc a vs ns G Y ho hd hcd hmg hobj hints hlen hg => ?_
  obtain ⟨K, fd, KX, hb, hF⟩ := F w mg fa _ Y G.T.g hmg
  exact law_endsB KX G.T.g G.T.b G.T.builtins G.T.nolimit G.T.nodigits hg hobj hints hlen hr hF hb
end VL

set_option Elab.async false
set_option linter.all false
set_option maxRecDepth 100000
set_option maxHeartbeats 0
namespace L2
open PySem PySem.Spec PyProof.Rows
theorem FunD.bindsKw {K : PySem.W.Frag} {x qual : Str} {params : Arguments} {body : List Stmt} {scope : Scope} {kws : List (Str × V)} {f : Addr} {fd : FuncData} {ps ks : List Str} {is : List Nat} (F : FunD K x qual params body scope [] kws f fd)
    (h : ∀ (kV doc pm : Value) (an : Option Addr) (cdv ct : Value) (ws : List Value), ws.length = ks.length → bindArgs (PySem.W.fnOf x qual params body scope .none kV doc pm an cdv ct) ⟨[], ks.zip ws⟩ = pure (ps.zip (VL.reord is ws))) (s : Shared) (ws : List Value) (hl : ws.length = ks.length) : BindsTo s fd ⟨[], ks.zip ws⟩ (ps.zip (VL.reord is ws)) := by
  obtain ⟨oc, od, dV, kV, doc, pm, an, cdv, ct, osl, rfl, lk, hcd, hD, hK⟩ := F.ex
  rcases hD with ⟨_, rfl⟩ | ⟨e, _⟩
  · exact .of_eq (h kV doc pm an cdv ct ws hl)
  · exact absurd rfl e
end L2

set_option Elab.async false
set_option linter.all false
set_option maxRecDepth 100000
set_option maxHeartbeats 400000
set_option maxHeartbeats 0
namespace K05
open PySem L2 VL SC
theorem l_law_deck : FnL fs_law_deck 1 := by
  intro io ds Q X h
  repeat (first | (obtain ⟨rfl, h⟩ := h) | (obtain ⟨_, h⟩ := h))
  all_goals first | rfl | (rename_i h; (repeat (first | (obtain ⟨rfl, h⟩ := h) | (obtain ⟨_, h⟩ := h))); all_goals rfl)
theorem l_law_draw : FnL fs_law_drawX 2 := by
  intro io ds Q X h
  repeat (first | (obtain ⟨rfl, h⟩ := h) | (obtain ⟨_, h⟩ := h))
  all_goals first | rfl | (rename_i h; (repeat (first | (obtain ⟨rfl, h⟩ := h) | (obtain ⟨_, h⟩ := h))); all_goals rfl)
theorem l_law_mark_names : FnL fs_law_mark_names 0 := by
  intro io ds Q X h
  repeat (first | (obtain ⟨rfl, h⟩ := h) | (obtain ⟨_, h⟩ := h))
  all_goals first | rfl | (rename_i h; (repeat (first | (obtain ⟨rfl, h⟩ := h) | (obtain ⟨_, h⟩ := h))); all_goals rfl)
theorem l_law_items : FnL fs_law_items 3 := by
  intro io ds Q X h
  repeat (first | (obtain ⟨rfl, h⟩ := h) | (obtain ⟨_, h⟩ := h))
  all_goals first | rfl | (rename_i h; (repeat (first | (obtain ⟨rfl, h⟩ := h) | (obtain ⟨_, h⟩ := h))); all_goals rfl)
theorem l_law_starts : FnL fs_law_starts 1 := by
  intro io ds Q X h
  repeat (first | (obtain ⟨rfl, h⟩ := h) | (obtain ⟨_, h⟩ := h))
  all_goals first | rfl | (rename_i h; (repeat (first | (obtain ⟨rfl, h⟩ := h) | (obtain ⟨_, h⟩ := h))); all_goals rfl)
theorem l_law_steps : FnL fs_law_steps 1 := by
  intro io ds Q X h
  repeat (first | (obtain ⟨rfl, h⟩ := h) | (obtain ⟨_, h⟩ := h))
  all_goals first | rfl | (rename_i h; (repeat (first | (obtain ⟨rfl, h⟩ := h) | (obtain ⟨_, h⟩ := h))); all_goals rfl)
theorem l_law_times : FnL fs_law_timesK 1 := by
  intro io ds Q X h
  repeat (first | (obtain ⟨rfl, h⟩ := h) | (obtain ⟨_, h⟩ := h))
  all_goals first | rfl | (rename_i h; (repeat (first | (obtain ⟨rfl, h⟩ := h) | (obtain ⟨_, h⟩ := h))); all_goals rfl)
theorem l_law_small : FnL fs_law_small 2 := by
  intro io ds Q X h
  repeat (first | (obtain ⟨rfl, h⟩ := h) | (obtain ⟨_, h⟩ := h))
  all_goals first | rfl | (rename_i h; (repeat (first | (obtain ⟨rfl, h⟩ := h) | (obtain ⟨_, h⟩ := h))); all_goals rfl)
theorem l_law_walk : FnL fs_law_walkK 1 := by
  intro io ds Q X h
  repeat (first | (obtain ⟨rfl, h⟩ := h) | (obtain ⟨_, h⟩ := h))
  all_goals first | rfl | (rename_i h; (repeat (first | (obtain ⟨rfl, h⟩ := h) | (obtain ⟨_, h⟩ := h))); all_goals rfl)
theorem l_is_integer : FnL fs_is_integer 3 := by
  intro io ds Q X h
  repeat (first | (obtain ⟨rfl, h⟩ := h) | (obtain ⟨_, h⟩ := h))
  all_goals first | rfl | (rename_i h; (repeat (first | (obtain ⟨rfl, h⟩ := h) | (obtain ⟨_, h⟩ := h))); all_goals rfl)
theorem l_is_name : FnL fs_is_name 1 := by
  intro io ds Q X h
  repeat (first | (obtain ⟨rfl, h⟩ := h) | (obtain ⟨_, h⟩ := h))
  all_goals first | rfl | (rename_i h; (repeat (first | (obtain ⟨rfl, h⟩ := h) | (obtain ⟨_, h⟩ := h))); all_goals rfl)
theorem l_is_item : FnL fs_is_item 2 := by
  intro io ds Q X h
  repeat (first | (obtain ⟨rfl, h⟩ := h) | (obtain ⟨_, h⟩ := h))
  all_goals first | rfl | (rename_i h; (repeat (first | (obtain ⟨rfl, h⟩ := h) | (obtain ⟨_, h⟩ := h))); all_goals rfl)
theorem l_is_score : FnL fs_is_score 1 := by
  intro io ds Q X h
  repeat (first | (obtain ⟨rfl, h⟩ := h) | (obtain ⟨_, h⟩ := h))
  all_goals first | rfl | (rename_i h; (repeat (first | (obtain ⟨rfl, h⟩ := h) | (obtain ⟨_, h⟩ := h))); all_goals rfl)
theorem l_require_score : FnL fs_require_score 1 := by
  intro io ds Q X h
  repeat (first | (obtain ⟨rfl, h⟩ := h) | (obtain ⟨_, h⟩ := h))
  all_goals first | rfl | (rename_i h; (repeat (first | (obtain ⟨rfl, h⟩ := h) | (obtain ⟨_, h⟩ := h))); all_goals rfl)
theorem l_is_repeat : FnL fs_is_repeat 2 := by
  intro io ds Q X h
  repeat (first | (obtain ⟨rfl, h⟩ := h) | (obtain ⟨_, h⟩ := h))
  all_goals first | rfl | (rename_i h; (repeat (first | (obtain ⟨rfl, h⟩ := h) | (obtain ⟨_, h⟩ := h))); all_goals rfl)
theorem l_is_active_entry : FnL fs_is_active_entry 2 := by
  intro io ds Q X h
  repeat (first | (obtain ⟨rfl, h⟩ := h) | (obtain ⟨_, h⟩ := h))
  all_goals first | rfl | (rename_i h; (repeat (first | (obtain ⟨rfl, h⟩ := h) | (obtain ⟨_, h⟩ := h))); all_goals rfl)
theorem l_mark_indices : FnL fs_mark_indices 1 := by
  intro io ds Q X h
  repeat (first | (obtain ⟨rfl, h⟩ := h) | (obtain ⟨_, h⟩ := h))
  all_goals first | rfl | (rename_i h; (repeat (first | (obtain ⟨rfl, h⟩ := h) | (obtain ⟨_, h⟩ := h))); all_goals rfl)
theorem l_segment_starts : FnL fs_segment_starts 1 := by
  intro io ds Q X h
  repeat (first | (obtain ⟨rfl, h⟩ := h) | (obtain ⟨_, h⟩ := h))
  all_goals first | rfl | (rename_i h; (repeat (first | (obtain ⟨rfl, h⟩ := h) | (obtain ⟨_, h⟩ := h))); all_goals rfl)
theorem l_is_state_of : FnL fs_is_state_of 2 := by
  intro io ds Q X h
  repeat (first | (obtain ⟨rfl, h⟩ := h) | (obtain ⟨_, h⟩ := h))
  all_goals first | rfl | (rename_i h; (repeat (first | (obtain ⟨rfl, h⟩ := h) | (obtain ⟨_, h⟩ := h))); all_goals rfl)
theorem l_require_state : FnL fs_require_state 2 := by
  intro io ds Q X h
  repeat (first | (obtain ⟨rfl, h⟩ := h) | (obtain ⟨_, h⟩ := h))
  all_goals first | rfl | (rename_i h; (repeat (first | (obtain ⟨rfl, h⟩ := h) | (obtain ⟨_, h⟩ := h))); all_goals rfl)
theorem l_counter_here : FnL fs_counter_hereD 1 := by
  intro io ds Q X h
  repeat (first | (obtain ⟨rfl, h⟩ := h) | (obtain ⟨_, h⟩ := h))
  all_goals first | rfl | (rename_i h; (repeat (first | (obtain ⟨rfl, h⟩ := h) | (obtain ⟨_, h⟩ := h))); all_goals rfl)
theorem l_step_from : FnL fs_step_fromD 3 := by
  intro io ds Q X h
  repeat (first | (obtain ⟨rfl, h⟩ := h) | (obtain ⟨_, h⟩ := h))
  all_goals first | rfl | (rename_i h; (repeat (first | (obtain ⟨rfl, h⟩ := h) | (obtain ⟨_, h⟩ := h))); all_goals rfl)
theorem l_next_step : FnL fs_next_stepD 2 := by
  intro io ds Q X h
  repeat (first | (obtain ⟨rfl, h⟩ := h) | (obtain ⟨_, h⟩ := h))
  all_goals first | rfl | (rename_i h; (repeat (first | (obtain ⟨rfl, h⟩ := h) | (obtain ⟨_, h⟩ := h))); all_goals rfl)
theorem l_previous_state : FnL fs_previous_stateD 2 := by
  intro io ds Q X h
  repeat (first | (obtain ⟨rfl, h⟩ := h) | (obtain ⟨_, h⟩ := h))
  all_goals first | rfl | (rename_i h; (repeat (first | (obtain ⟨rfl, h⟩ := h) | (obtain ⟨_, h⟩ := h))); all_goals rfl)
def D_law_deck : He.DefD := ⟨("_law_deck", none), "_law_deck", "_law_deck", defArgs s_law_deck, defBody s_law_deck, defScope s_law_deck, [], []⟩
def D_law_draw : He.DefD := ⟨("_law_draw", none), "_law_draw", "_law_draw", defArgs s_law_draw, defBody s_law_draw, defScope s_law_draw, [], []⟩
def D_law_same : He.DefD := ⟨("_law_same", none), "_law_same", "_law_same", defArgs s_law_same, defBody s_law_same, defScope s_law_same, [], []⟩
def D_law_mark_names : He.DefD := ⟨("_law_mark_names", none), "_law_mark_names", "_law_mark_names", defArgs s_law_mark_names, defBody s_law_mark_names, defScope s_law_mark_names, [], []⟩
def D_law_items : He.DefD := ⟨("_law_items", none), "_law_items", "_law_items", defArgs s_law_items, defBody s_law_items, defScope s_law_items, [], []⟩
def D_law_starts : He.DefD := ⟨("_law_starts", none), "_law_starts", "_law_starts", defArgs s_law_starts, defBody s_law_starts, defScope s_law_starts, [], []⟩
def D_law_steps : He.DefD := ⟨("_law_steps", none), "_law_steps", "_law_steps", defArgs s_law_steps, defBody s_law_steps, defScope s_law_steps, [], []⟩
def D_law_times : He.DefD := ⟨("_law_times", none), "_law_times", "_law_times", defArgs s_law_times, defBody s_law_times, defScope s_law_times, [], []⟩
def D_law_small : He.DefD := ⟨("_law_small", none), "_law_small", "_law_small", defArgs s_law_small, defBody s_law_small, defScope s_law_small, [], []⟩
def D_law_walk : He.DefD := ⟨("_law_walk", none), "_law_walk", "_law_walk", defArgs s_law_walk, defBody s_law_walk, defScope s_law_walk, [], []⟩
def D_is_integer : He.DefD := ⟨("is_integer", none), "is_integer", "is_integer", defArgs s_is_integer, defBody s_is_integer, defScope s_is_integer, [.non], []⟩
def D_is_name : He.DefD := ⟨("is_name", none), "is_name", "is_name", defArgs s_is_name, defBody s_is_name, defScope s_is_name, [], []⟩
def D_is_item : He.DefD := ⟨("is_item", none), "is_item", "is_item", defArgs s_is_item, defBody s_is_item, defScope s_is_item, [], []⟩
def D_is_score : He.DefD := ⟨("is_score", none), "is_score", "is_score", defArgs s_is_score, defBody s_is_score, defScope s_is_score, [], []⟩
def D_require_score : He.DefD := ⟨("require_score", none), "require_score", "require_score", defArgs s_require_score, defBody s_require_score, defScope s_require_score, [], []⟩
def D_is_repeat : He.DefD := ⟨("is_repeat", none), "is_repeat", "is_repeat", defArgs s_is_repeat, defBody s_is_repeat, defScope s_is_repeat, [], []⟩
def D_is_active_entry : He.DefD := ⟨("is_active_entry", none), "is_active_entry", "is_active_entry", defArgs s_is_active_entry, defBody s_is_active_entry, defScope s_is_active_entry, [], []⟩
def D_mark_indices : He.DefD := ⟨("mark_indices", none), "mark_indices", "mark_indices", defArgs s_mark_indices, defBody s_mark_indices, defScope s_mark_indices, [], []⟩
def D_segment_starts : He.DefD := ⟨("segment_starts", none), "segment_starts", "segment_starts", defArgs s_segment_starts, defBody s_segment_starts, defScope s_segment_starts, [], []⟩
def D_is_state_of : He.DefD := ⟨("is_state_of", none), "is_state_of", "is_state_of", defArgs s_is_state_of, defBody s_is_state_of, defScope s_is_state_of, [], []⟩
def D_require_state : He.DefD := ⟨("require_state", none), "require_state", "require_state", defArgs s_require_state, defBody s_require_state, defScope s_require_state, [], []⟩
def D_counter_here : He.DefD := ⟨("counter_here", none), "counter_here", "counter_here", defArgs s_counter_here, defBody s_counter_here, defScope s_counter_here, [], []⟩
def D_step_from : He.DefD := ⟨("step_from", none), "step_from", "step_from", defArgs s_step_from, defBody s_step_from, defScope s_step_from, [], []⟩
def D_next_step : He.DefD := ⟨("next_step", none), "next_step", "next_step", defArgs s_next_step, defBody s_next_step, defScope s_next_step, [], []⟩
def D_previous_state : He.DefD := ⟨("previous_state", none), "previous_state", "previous_state", defArgs s_previous_state, defBody s_previous_state, defScope s_previous_state, [], []⟩
def D_law : He.DefD := ⟨("law", none), "law", "law", defArgs s_law, defBody s_law, defScope s_law, [], []⟩
def fn : List He.DefD := [D_law_deck, D_law_draw, D_law_same, D_law_mark_names, D_law_items, D_law_starts, D_law_steps, D_law_times, D_law_small, D_law_walk, D_is_integer, D_is_name, D_is_item, D_is_score, D_require_score, D_is_repeat, D_is_active_entry, D_mark_indices, D_segment_starts, D_is_state_of, D_require_state, D_counter_here, D_step_from, D_next_step, D_previous_state, D_law]
def fa : List He.Fa := [.glo "_law_deck", .glo "_law_draw", .glo "_law_same", .glo "_law_mark_names", .glo "_law_items", .glo "_law_starts", .glo "_law_steps", .glo "_law_times", .glo "_law_small", .glo "_law_walk", .glo "is_integer", .glo "is_name", .glo "is_item", .glo "is_score", .glo "require_score", .glo "is_repeat", .glo "is_active_entry", .glo "mark_indices", .glo "segment_starts", .glo "is_state_of", .glo "require_state", .glo "counter_here", .glo "step_from", .glo "next_step", .glo "previous_state", .glo "law", .free "all", .free "bool", .free "enumerate", .free "int", .free "isinstance", .free "len", .free "list", .free "max", .free "min", .free "range", .free "repr", .free "sorted", .free "str", .free "tuple", .free "zip", .str "BAR" "bar", .str "CONTINUE" "continue", .str "JUMP" "jump", .str "LETTERS" "abcdefghijklmnopqrstuvwxyz", .str "MARK" "mark", .int "MAX_NAME_LENGTH" 8, .str "PASS" "pass", .str "PLAY" "play", .str "REPEAT" "repeat"]
abbrev Rw : PySem.W.OpenRow := PySem.W.OpenLaw.row PySem.Challenge.rw_wornsigns_k05_steps_one_by_one
abbrev hk : PySem.W.Hook := He.hookD 4 fa fn
def ob (s : PySem.W.SharedT) : He.AlD := He.obsDG 4 fa fn (HandSHeadRun.getT s)
theorem ob_eq (s : PySem.W.SharedT) : ob s = hk.obs s.abs := He.obsDG_eq (HandSHeadRun.getT_eq s)
def loose0 : List PySem.Str := ["ScoreError", "InvalidScore", "InvalidState", "LETTERS", "MAX_NAME_LENGTH", "BAR", "MARK", "REPEAT", "is_integer", "is_name", "is_item", "is_score", "require_score", "is_repeat", "mark_indices", "segment_starts", "PLAY", "PASS", "JUMP", "CONTINUE", "is_active_entry", "is_state_of", "require_state", "counter_here", "step_from", "next_step", "previous_state", "_law_deck", "_law_draw", "_law_mark_names"]
def loose1 : List PySem.Str := ["_law_items", "_law_starts", "_law_times", "_law_steps", "_law_small", "_law_walk", "_law_same"]
def loose : List PySem.Str := loose0 ++ loose1
theorem run (w : World) : HandSHeadRun.RunEq Rw (PySem.W.view Rw.prog [41]) hk ob 4000 loose w := by
  intro os
  kernel_rfl
theorem facts {P : Program} {w : World} {K : Fg} {h : Heap} {mg : Str → Option Value} {f : Addr} (X : K.In h) (G : h.Ns mainGlobals mg) (hfa : mg ("law" : Str) = some (.ref f)) (c : He.SaysD fa fn K) :
    ∃ fd : FuncData, (∀ (s : Shared) (u : Value), BindsTo s fd ⟨[u], []⟩ [("_law_script", u)]) ∧ ∀ base : Heap, K.In base → base.Ns mainGlobals mg → base.NoDigits → LawRuns P w K mg base 8 f fd "_law_script" := by
  obtain ⟨fd_law_deck, F_law_deck⟩ := c.def_ 0 (d := D_law_deck) rfl
  obtain ⟨fd_law_draw, F_law_draw⟩ := c.def_ 1 (d := D_law_draw) rfl
  obtain ⟨fd_law_same, F_law_same⟩ := c.def_ 2 (d := D_law_same) rfl
  obtain ⟨fd_law_mark_names, F_law_mark_names⟩ := c.def_ 3 (d := D_law_mark_names) rfl
  obtain ⟨fd_law_items, F_law_items⟩ := c.def_ 4 (d := D_law_items) rfl
  obtain ⟨fd_law_starts, F_law_starts⟩ := c.def_ 5 (d := D_law_starts) rfl
  obtain ⟨fd_law_steps, F_law_steps⟩ := c.def_ 6 (d := D_law_steps) rfl
  obtain ⟨fd_law_times, F_law_times⟩ := c.def_ 7 (d := D_law_times) rfl
  obtain ⟨fd_law_small, F_law_small⟩ := c.def_ 8 (d := D_law_small) rfl
  obtain ⟨fd_law_walk, F_law_walk⟩ := c.def_ 9 (d := D_law_walk) rfl
  obtain ⟨fd_is_integer, F_is_integer⟩ := c.def_ 10 (d := D_is_integer) rfl
  obtain ⟨fd_is_name, F_is_name⟩ := c.def_ 11 (d := D_is_name) rfl
  obtain ⟨fd_is_item, F_is_item⟩ := c.def_ 12 (d := D_is_item) rfl
  obtain ⟨fd_is_score, F_is_score⟩ := c.def_ 13 (d := D_is_score) rfl
  obtain ⟨fd_require_score, F_require_score⟩ := c.def_ 14 (d := D_require_score) rfl
  obtain ⟨fd_is_repeat, F_is_repeat⟩ := c.def_ 15 (d := D_is_repeat) rfl
  obtain ⟨fd_is_active_entry, F_is_active_entry⟩ := c.def_ 16 (d := D_is_active_entry) rfl
  obtain ⟨fd_mark_indices, F_mark_indices⟩ := c.def_ 17 (d := D_mark_indices) rfl
  obtain ⟨fd_segment_starts, F_segment_starts⟩ := c.def_ 18 (d := D_segment_starts) rfl
  obtain ⟨fd_is_state_of, F_is_state_of⟩ := c.def_ 19 (d := D_is_state_of) rfl
  obtain ⟨fd_require_state, F_require_state⟩ := c.def_ 20 (d := D_require_state) rfl
  obtain ⟨fd_counter_here, F_counter_here⟩ := c.def_ 21 (d := D_counter_here) rfl
  obtain ⟨fd_step_from, F_step_from⟩ := c.def_ 22 (d := D_step_from) rfl
  obtain ⟨fd_next_step, F_next_step⟩ := c.def_ 23 (d := D_next_step) rfl
  obtain ⟨fd_previous_state, F_previous_state⟩ := c.def_ 24 (d := D_previous_state) rfl
  obtain ⟨fd_law, F_law⟩ := c.def_ 25 (d := D_law) rfl
  have M : Ms mg := ⟨He.free_ok X G (c.fact 26 (f := .free "all") rfl),
    He.free_ok X G (c.fact 27 (f := .free "bool") rfl),
    He.free_ok X G (c.fact 28 (f := .free "enumerate") rfl),
    He.free_ok X G (c.fact 29 (f := .free "int") rfl),
    He.free_ok X G (c.fact 30 (f := .free "isinstance") rfl),
    He.free_ok X G (c.fact 31 (f := .free "len") rfl),
    He.free_ok X G (c.fact 32 (f := .free "list") rfl),
    He.free_ok X G (c.fact 33 (f := .free "max") rfl),
    He.free_ok X G (c.fact 34 (f := .free "min") rfl),
    He.free_ok X G (c.fact 35 (f := .free "range") rfl),
    He.free_ok X G (c.fact 36 (f := .free "repr") rfl),
    He.free_ok X G (c.fact 37 (f := .free "sorted") rfl),
    He.free_ok X G (c.fact 38 (f := .free "str") rfl),
    He.free_ok X G (c.fact 39 (f := .free "tuple") rfl),
    He.free_ok X G (c.fact 40 (f := .free "zip") rfl),
    He.str_ok X G (c.fact 41 (f := .str "BAR" "bar") rfl),
    He.str_ok X G (c.fact 42 (f := .str "CONTINUE" "continue") rfl),
    He.str_ok X G (c.fact 43 (f := .str "JUMP" "jump") rfl),
    He.str_ok X G (c.fact 44 (f := .str "LETTERS" "abcdefghijklmnopqrstuvwxyz") rfl),
    He.str_ok X G (c.fact 45 (f := .str "MARK" "mark") rfl),
    He.int_ok X G (c.fact 46 (f := .int "MAX_NAME_LENGTH" 8) rfl),
    He.str_ok X G (c.fact 47 (f := .str "PASS" "pass") rfl),
    He.str_ok X G (c.fact 48 (f := .str "PLAY" "play") rfl),
    He.str_ok X G (c.fact 49 (f := .str "REPEAT" "repeat") rfl)⟩
  have el := hfa.symm.trans (He.glo_ok X G (c.fact 25 (f := .glo "law") rfl))
  cases el
  refine ⟨fd_law, fun s u => FunD.bindsA (ps := ["_law_script"]) F_law (fun _ _ _ _ _ _ us hl => match us, hl with | [_], _ => rfl) s [u] rfl, fun base _ _ hnd => ?_⟩
  have o_law_deck : FnOk P w K mg base (L2N.CX P w) 1 (He.fAd K ("_law_deck", none)) fd_law_deck ["_law_script"] (lift ⟨K, OpS K, fun _ => 0⟩ fs_law_deck) := vfn F_law_deck sc_law_deck l_law_deck fv_law_deck (d_law_deck M )
  have g_law_deck : Gd P w ⟨K, OpS K, fun _ => 0⟩ mg base 1 "_law_deck" fs_law_deck ["_law_script"] [] := ⟨_, _, He.glo_ok X G (c.fact 0 (f := .glo "_law_deck") rfl), F_law_deck.kp, o_law_deck, [], .nil, FunD.bindsN F_law_deck fun _ _ _ _ _ _ us hl => match us, hl with | [_], _ => rfl⟩
  have o_law_draw : FnOk P w K mg base (L2N.CX P w) 1 (He.fAd K ("_law_draw", none)) fd_law_draw ["_law_deck_here", "_law_many"] (lift ⟨K, OpS K, fun _ => 0⟩ fs_law_drawX) := FunD.ok F_law_draw sc_law_draw (fun _ _ _ _ h => lift_len l_law_draw h) fun cdv A outer s H vs Q E hr hsp => d_law_draw M cdv A outer s H vs Q E hr hsp
  have g_law_draw : Gd P w ⟨K, OpS K, fun _ => 0⟩ mg base 1 "_law_draw" fs_law_drawX ["_law_deck_here", "_law_many"] [] := ⟨_, _, He.glo_ok X G (c.fact 1 (f := .glo "_law_draw") rfl), F_law_draw.kp, o_law_draw, [], .nil, FunD.bindsN F_law_draw fun _ _ _ _ _ _ us hl => match us, hl with | [_, _], _ => rfl⟩
  have o_law_same_0 : FnOk P w K mg base (L2N.CX P w) 1 (He.fAd K ("_law_same", none)) fd_law_same ["_law_found", "_law_due"] (lift ⟨K, OpS K, fun _ => 0⟩ (fsRec_law_same 0)) := FunD.ok F_law_same sc_law_same (fun _ _ _ _ h => (no_lift h).elim) fun _ _ _ _ _ _ _ _ _ h => (no_lift h).elim
  have g_law_same_0 : Gd P w ⟨K, OpS K, fun _ => 0⟩ mg base 1 "_law_same" (fsRec_law_same 0) ["_law_found", "_law_due"] [] := ⟨_, _, He.glo_ok X G (c.fact 2 (f := .glo "_law_same") rfl), F_law_same.kp, o_law_same_0, [], .nil, FunD.bindsN F_law_same fun _ _ _ _ _ _ us hl => match us, hl with | [_, _], _ => rfl⟩
  have o_law_same_1 : FnOk P w K mg base (L2N.CX P w) 2 (He.fAd K ("_law_same", none)) fd_law_same ["_law_found", "_law_due"] (lift ⟨K, OpS K, fun _ => 0⟩ (fsRec_law_same 1)) := vfn F_law_same sc_law_same (lRec_law_same 1) (fvRec_law_same 0) (d_law_same M g_law_same_0)
  have g_law_same_1 : Gd P w ⟨K, OpS K, fun _ => 0⟩ mg base 2 "_law_same" (fsRec_law_same 1) ["_law_found", "_law_due"] [] := ⟨_, _, He.glo_ok X G (c.fact 2 (f := .glo "_law_same") rfl), F_law_same.kp, o_law_same_1, [], .nil, FunD.bindsN F_law_same fun _ _ _ _ _ _ us hl => match us, hl with | [_, _], _ => rfl⟩
  have o_law_same_2 : FnOk P w K mg base (L2N.CX P w) 3 (He.fAd K ("_law_same", none)) fd_law_same ["_law_found", "_law_due"] (lift ⟨K, OpS K, fun _ => 0⟩ (fsRec_law_same 2)) := vfn F_law_same sc_law_same (lRec_law_same 2) (fvRec_law_same 1) (d_law_same M g_law_same_1)
  have g_law_same_2 : Gd P w ⟨K, OpS K, fun _ => 0⟩ mg base 3 "_law_same" (fsRec_law_same 2) ["_law_found", "_law_due"] [] := ⟨_, _, He.glo_ok X G (c.fact 2 (f := .glo "_law_same") rfl), F_law_same.kp, o_law_same_2, [], .nil, FunD.bindsN F_law_same fun _ _ _ _ _ _ us hl => match us, hl with | [_, _], _ => rfl⟩
  have o_law_same_3 : FnOk P w K mg base (L2N.CX P w) 4 (He.fAd K ("_law_same", none)) fd_law_same ["_law_found", "_law_due"] (lift ⟨K, OpS K, fun _ => 0⟩ (fsRec_law_same 3)) := vfn F_law_same sc_law_same (lRec_law_same 3) (fvRec_law_same 2) (d_law_same M g_law_same_2)
  have g_law_same_3 : Gd P w ⟨K, OpS K, fun _ => 0⟩ mg base 4 "_law_same" (fsRec_law_same 3) ["_law_found", "_law_due"] [] := ⟨_, _, He.glo_ok X G (c.fact 2 (f := .glo "_law_same") rfl), F_law_same.kp, o_law_same_3, [], .nil, FunD.bindsN F_law_same fun _ _ _ _ _ _ us hl => match us, hl with | [_, _], _ => rfl⟩
  have o_law_same_4 : FnOk P w K mg base (L2N.CX P w) 5 (He.fAd K ("_law_same", none)) fd_law_same ["_law_found", "_law_due"] (lift ⟨K, OpS K, fun _ => 0⟩ (fsRec_law_same 4)) := vfn F_law_same sc_law_same (lRec_law_same 4) (fvRec_law_same 3) (d_law_same M g_law_same_3)
  have g_law_same_4 : Gd P w ⟨K, OpS K, fun _ => 0⟩ mg base 5 "_law_same" (fsRec_law_same 4) ["_law_found", "_law_due"] [] := ⟨_, _, He.glo_ok X G (c.fact 2 (f := .glo "_law_same") rfl), F_law_same.kp, o_law_same_4, [], .nil, FunD.bindsN F_law_same fun _ _ _ _ _ _ us hl => match us, hl with | [_, _], _ => rfl⟩
  have o_law_same_5 : FnOk P w K mg base (L2N.CX P w) 6 (He.fAd K ("_law_same", none)) fd_law_same ["_law_found", "_law_due"] (lift ⟨K, OpS K, fun _ => 0⟩ (fsRec_law_same 5)) := vfn F_law_same sc_law_same (lRec_law_same 5) (fvRec_law_same 4) (d_law_same M g_law_same_4)
  have g_law_same_5 : Gd P w ⟨K, OpS K, fun _ => 0⟩ mg base 6 "_law_same" (fsRec_law_same 5) ["_law_found", "_law_due"] [] := ⟨_, _, He.glo_ok X G (c.fact 2 (f := .glo "_law_same") rfl), F_law_same.kp, o_law_same_5, [], .nil, FunD.bindsN F_law_same fun _ _ _ _ _ _ us hl => match us, hl with | [_, _], _ => rfl⟩
  have o_law_same_6 : FnOk P w K mg base (L2N.CX P w) 7 (He.fAd K ("_law_same", none)) fd_law_same ["_law_found", "_law_due"] (lift ⟨K, OpS K, fun _ => 0⟩ (fsRec_law_same 6)) := vfn F_law_same sc_law_same (lRec_law_same 6) (fvRec_law_same 5) (d_law_same M g_law_same_5)
  have g_law_same : Gd P w ⟨K, OpS K, fun _ => 0⟩ mg base 7 "_law_same" (fsRec_law_same 6) ["_law_found", "_law_due"] [] := ⟨_, _, He.glo_ok X G (c.fact 2 (f := .glo "_law_same") rfl), F_law_same.kp, o_law_same_6, [], .nil, FunD.bindsN F_law_same fun _ _ _ _ _ _ us hl => match us, hl with | [_, _], _ => rfl⟩
  have o_law_mark_names : FnOk P w K mg base (L2N.CX P w) 1 (He.fAd K ("_law_mark_names", none)) fd_law_mark_names [] (lift ⟨K, OpS K, fun _ => 0⟩ fs_law_mark_names) := vfn F_law_mark_names sc_law_mark_names l_law_mark_names fv_law_mark_names (d_law_mark_names M )
  have g_law_mark_names : Gd P w ⟨K, OpS K, fun _ => 0⟩ mg base 1 "_law_mark_names" fs_law_mark_names [] [] := ⟨_, _, He.glo_ok X G (c.fact 3 (f := .glo "_law_mark_names") rfl), F_law_mark_names.kp, o_law_mark_names, [], .nil, FunD.bindsN F_law_mark_names fun _ _ _ _ _ _ us hl => match us, hl with | [], _ => rfl⟩
  have o_law_items : FnOk P w K mg base (L2N.CX P w) 2 (He.fAd K ("_law_items", none)) fd_law_items ["_law_deck_here", "_law_most", "_law_wide"] (lift ⟨K, OpS K, fun _ => 0⟩ fs_law_items) := vfn F_law_items sc_law_items l_law_items fv_law_items (d_law_items M (g_law_draw.mono (by decide)) (g_law_mark_names.mono (by decide)))
  have g_law_items : Gd P w ⟨K, OpS K, fun _ => 0⟩ mg base 2 "_law_items" fs_law_items ["_law_deck_here", "_law_most", "_law_wide"] [] := ⟨_, _, He.glo_ok X G (c.fact 4 (f := .glo "_law_items") rfl), F_law_items.kp, o_law_items, [], .nil, FunD.bindsN F_law_items fun _ _ _ _ _ _ us hl => match us, hl with | [_, _, _], _ => rfl⟩
  have o_law_starts : FnOk P w K mg base (L2N.CX P w) 1 (He.fAd K ("_law_starts", none)) fd_law_starts ["_law_items_here"] (lift ⟨K, OpS K, fun _ => 0⟩ fs_law_starts) := vfn F_law_starts sc_law_starts l_law_starts fv_law_starts (d_law_starts M )
  have g_law_starts : Gd P w ⟨K, OpS K, fun _ => 0⟩ mg base 1 "_law_starts" fs_law_starts ["_law_items_here"] [] := ⟨_, _, He.glo_ok X G (c.fact 5 (f := .glo "_law_starts") rfl), F_law_starts.kp, o_law_starts, [], .nil, FunD.bindsN F_law_starts fun _ _ _ _ _ _ us hl => match us, hl with | [_], _ => rfl⟩
  have o_law_steps : FnOk P w K mg base (L2N.CX P w) 2 (He.fAd K ("_law_steps", none)) fd_law_steps ["_law_items_here"] (lift ⟨K, OpS K, fun _ => 0⟩ fs_law_steps) := vfn F_law_steps sc_law_steps l_law_steps fv_law_steps (d_law_steps M (g_law_starts.mono (by decide)))
  have g_law_steps : Gd P w ⟨K, OpS K, fun _ => 0⟩ mg base 2 "_law_steps" fs_law_steps ["_law_items_here"] [] := ⟨_, _, He.glo_ok X G (c.fact 6 (f := .glo "_law_steps") rfl), F_law_steps.kp, o_law_steps, [], .nil, FunD.bindsN F_law_steps fun _ _ _ _ _ _ us hl => match us, hl with | [_], _ => rfl⟩
  have o_law_times : FnOk P w K mg base (L2N.CX P w) 2 (He.fAd K ("_law_times", none)) fd_law_times ["_law_items_here"] (lift ⟨K, OpS K, fun _ => 0⟩ fs_law_timesK) := vfn F_law_times sc_law_times l_law_times fv_law_timesK (d_law_times M (g_law_starts.mono (by decide)))
  have g_law_times : Gd P w ⟨K, OpS K, fun _ => 0⟩ mg base 2 "_law_times" fs_law_timesK ["_law_items_here"] [] := ⟨_, _, He.glo_ok X G (c.fact 7 (f := .glo "_law_times") rfl), F_law_times.kp, o_law_times, [], .nil, FunD.bindsN F_law_times fun _ _ _ _ _ _ us hl => match us, hl with | [_], _ => rfl⟩
  have o_law_small : FnOk P w K mg base (L2N.CX P w) 3 (He.fAd K ("_law_small", none)) fd_law_small ["_law_deck_here", "_law_bound"] (lift ⟨K, OpS K, fun _ => 0⟩ fs_law_small) := vfn F_law_small sc_law_small l_law_small fv_law_small (d_law_small M (g_law_items.mono (by decide)) (g_law_steps.mono (by decide)) (g_law_times.mono (by decide)))
  have g_law_small : Gd P w ⟨K, OpS K, fun _ => 0⟩ mg base 3 "_law_small" fs_law_small ["_law_deck_here", "_law_bound"] [] := ⟨_, _, He.glo_ok X G (c.fact 8 (f := .glo "_law_small") rfl), F_law_small.kp, o_law_small, [], .nil, FunD.bindsN F_law_small fun _ _ _ _ _ _ us hl => match us, hl with | [_, _], _ => rfl⟩
  have o_law_walk : FnOk P w K mg base (L2N.CX P w) 2 (He.fAd K ("_law_walk", none)) fd_law_walk ["_law_items_here"] (lift ⟨K, OpS K, fun _ => 0⟩ fs_law_walkK) := vfn F_law_walk sc_law_walk l_law_walk fv_law_walkK (d_law_walk M (g_law_starts.mono (by decide)))
  have g_law_walk : Gd P w ⟨K, OpS K, fun _ => 0⟩ mg base 2 "_law_walk" fs_law_walkK ["_law_items_here"] [] := ⟨_, _, He.glo_ok X G (c.fact 9 (f := .glo "_law_walk") rfl), F_law_walk.kp, o_law_walk, [], .nil, FunD.bindsN F_law_walk fun _ _ _ _ _ _ us hl => match us, hl with | [_], _ => rfl⟩
  have o_is_integer : FnOk P w K mg base (L2N.CX P w) 1 (He.fAd K ("is_integer", none)) fd_is_integer ["value", "low", "high"] (lift ⟨K, OpS K, fun _ => 0⟩ fs_is_integer) := vfn F_is_integer sc_is_integer l_is_integer fv_is_integer (d_is_integer M )
  have g_is_integer_0 : Gd P w ⟨K, OpS K, fun _ => 0⟩ mg base 1 "is_integer" fs_is_integer ["value", "low", "high"] [] := by
    obtain ⟨ds, v, b⟩ := FunD.binds1 (ps := ["value", "low", "high"]) F_is_integer 3 1 (List.cons_ne_nil _ _) rfl fun _ _ _ _ _ _ _ us its hl hl2 => match us, hl, its, hl2 with | [_, _, _], _, [_], _ => ⟨_, rfl, rfl⟩
    exact ⟨_, _, He.glo_ok X G (c.fact 10 (f := .glo "is_integer") rfl), F_is_integer.kp, o_is_integer, ds, v, b⟩
  have g_is_integer_1 : Gd P w ⟨K, OpS K, fun _ => 0⟩ mg base 1 "is_integer" fs_is_integer ["value", "low", "high"] [.non] := by
    obtain ⟨ds, v, b⟩ := FunD.binds1 (ps := ["value", "low", "high"]) F_is_integer 2 0 (List.cons_ne_nil _ _) rfl fun _ _ _ _ _ _ _ us its hl hl2 => match us, hl, its, hl2 with | [_, _], _, [_], _ => ⟨_, rfl, rfl⟩
    exact ⟨_, _, He.glo_ok X G (c.fact 10 (f := .glo "is_integer") rfl), F_is_integer.kp, o_is_integer, ds, v, b⟩
  have o_is_name : FnOk P w K mg base (L2N.CX P w) 1 (He.fAd K ("is_name", none)) fd_is_name ["value"] (lift ⟨K, OpS K, fun _ => 0⟩ fs_is_name) := vfn F_is_name sc_is_name l_is_name fv_is_name (d_is_name M )
  have g_is_name : Gd P w ⟨K, OpS K, fun _ => 0⟩ mg base 1 "is_name" fs_is_name ["value"] [] := ⟨_, _, He.glo_ok X G (c.fact 11 (f := .glo "is_name") rfl), F_is_name.kp, o_is_name, [], .nil, FunD.bindsN F_is_name fun _ _ _ _ _ _ us hl => match us, hl with | [_], _ => rfl⟩
  have o_is_item : FnOk P w K mg base (L2N.CX P w) 2 (He.fAd K ("is_item", none)) fd_is_item ["value", "marks"] (lift ⟨K, OpS K, fun _ => 0⟩ fs_is_item) := vfn F_is_item sc_is_item l_is_item fv_is_item (d_is_item M (g_is_integer_0.mono (by decide)) (g_is_integer_1.mono (by decide)) (g_is_name.mono (by decide)))
  have g_is_item : Gd P w ⟨K, OpS K, fun _ => 0⟩ mg base 2 "is_item" fs_is_item ["value", "marks"] [] := ⟨_, _, He.glo_ok X G (c.fact 12 (f := .glo "is_item") rfl), F_is_item.kp, o_is_item, [], .nil, FunD.bindsN F_is_item fun _ _ _ _ _ _ us hl => match us, hl with | [_, _], _ => rfl⟩
  have o_is_score : FnOk P w K mg base (L2N.CX P w) 3 (He.fAd K ("is_score", none)) fd_is_score ["value"] (lift ⟨K, OpS K, fun _ => 0⟩ fs_is_score) := vfn F_is_score sc_is_score l_is_score fv_is_score (d_is_score M (g_is_item.mono (by decide)))
  have g_is_score : Gd P w ⟨K, OpS K, fun _ => 0⟩ mg base 3 "is_score" fs_is_score ["value"] [] := ⟨_, _, He.glo_ok X G (c.fact 13 (f := .glo "is_score") rfl), F_is_score.kp, o_is_score, [], .nil, FunD.bindsN F_is_score fun _ _ _ _ _ _ us hl => match us, hl with | [_], _ => rfl⟩
  have o_require_score : FnOk P w K mg base (L2N.CX P w) 4 (He.fAd K ("require_score", none)) fd_require_score ["score"] (lift ⟨K, OpS K, fun _ => 0⟩ fs_require_score) := vfn F_require_score sc_require_score l_require_score fv_require_score (d_require_score M (g_is_score.mono (by decide)))
  have g_require_score : Gd P w ⟨K, OpS K, fun _ => 0⟩ mg base 4 "require_score" fs_require_score ["score"] [] := ⟨_, _, He.glo_ok X G (c.fact 14 (f := .glo "require_score") rfl), F_require_score.kp, o_require_score, [], .nil, FunD.bindsN F_require_score fun _ _ _ _ _ _ us hl => match us, hl with | [_], _ => rfl⟩
  have o_is_repeat : FnOk P w K mg base (L2N.CX P w) 2 (He.fAd K ("is_repeat", none)) fd_is_repeat ["score", "value"] (lift ⟨K, OpS K, fun _ => 0⟩ fs_is_repeat) := vfn F_is_repeat sc_is_repeat l_is_repeat fv_is_repeat (d_is_repeat M (g_is_integer_0.mono (by decide)) (g_is_integer_1.mono (by decide)))
  have g_is_repeat : Gd P w ⟨K, OpS K, fun _ => 0⟩ mg base 2 "is_repeat" fs_is_repeat ["score", "value"] [] := ⟨_, _, He.glo_ok X G (c.fact 15 (f := .glo "is_repeat") rfl), F_is_repeat.kp, o_is_repeat, [], .nil, FunD.bindsN F_is_repeat fun _ _ _ _ _ _ us hl => match us, hl with | [_, _], _ => rfl⟩
  have o_is_active_entry : FnOk P w K mg base (L2N.CX P w) 3 (He.fAd K ("is_active_entry", none)) fd_is_active_entry ["score", "value"] (lift ⟨K, OpS K, fun _ => 0⟩ fs_is_active_entry) := vfn F_is_active_entry sc_is_active_entry l_is_active_entry fv_is_active_entry (d_is_active_entry M (g_is_integer_0.mono (by decide)) (g_is_integer_1.mono (by decide)) (g_is_repeat.mono (by decide)))
  have g_is_active_entry : Gd P w ⟨K, OpS K, fun _ => 0⟩ mg base 3 "is_active_entry" fs_is_active_entry ["score", "value"] [] := ⟨_, _, He.glo_ok X G (c.fact 16 (f := .glo "is_active_entry") rfl), F_is_active_entry.kp, o_is_active_entry, [], .nil, FunD.bindsN F_is_active_entry fun _ _ _ _ _ _ us hl => match us, hl with | [_, _], _ => rfl⟩
  have o_mark_indices : FnOk P w K mg base (L2N.CX P w) 1 (He.fAd K ("mark_indices", none)) fd_mark_indices ["score"] (lift ⟨K, OpS K, fun _ => 0⟩ fs_mark_indices) := vfn F_mark_indices sc_mark_indices l_mark_indices fv_mark_indices (d_mark_indices M )
  have g_mark_indices : Gd P w ⟨K, OpS K, fun _ => 0⟩ mg base 1 "mark_indices" fs_mark_indices ["score"] [] := ⟨_, _, He.glo_ok X G (c.fact 17 (f := .glo "mark_indices") rfl), F_mark_indices.kp, o_mark_indices, [], .nil, FunD.bindsN F_mark_indices fun _ _ _ _ _ _ us hl => match us, hl with | [_], _ => rfl⟩
  have o_segment_starts : FnOk P w K mg base (L2N.CX P w) 2 (He.fAd K ("segment_starts", none)) fd_segment_starts ["score"] (lift ⟨K, OpS K, fun _ => 0⟩ fs_segment_starts) := vfn F_segment_starts sc_segment_starts l_segment_starts fv_segment_starts (d_segment_starts M (g_mark_indices.mono (by decide)))
  have g_segment_starts : Gd P w ⟨K, OpS K, fun _ => 0⟩ mg base 2 "segment_starts" fs_segment_starts ["score"] [] := ⟨_, _, He.glo_ok X G (c.fact 18 (f := .glo "segment_starts") rfl), F_segment_starts.kp, o_segment_starts, [], .nil, FunD.bindsN F_segment_starts fun _ _ _ _ _ _ us hl => match us, hl with | [_], _ => rfl⟩
  have o_is_state_of : FnOk P w K mg base (L2N.CX P w) 4 (He.fAd K ("is_state_of", none)) fd_is_state_of ["score", "value"] (lift ⟨K, OpS K, fun _ => 0⟩ fs_is_state_of) := vfn F_is_state_of sc_is_state_of l_is_state_of fv_is_state_of (d_is_state_of M (g_is_active_entry.mono (by decide)) (g_is_integer_0.mono (by decide)) (g_is_integer_1.mono (by decide)) (g_segment_starts.mono (by decide)))
  have g_is_state_of : Gd P w ⟨K, OpS K, fun _ => 0⟩ mg base 4 "is_state_of" fs_is_state_of ["score", "value"] [] := ⟨_, _, He.glo_ok X G (c.fact 19 (f := .glo "is_state_of") rfl), F_is_state_of.kp, o_is_state_of, [], .nil, FunD.bindsN F_is_state_of fun _ _ _ _ _ _ us hl => match us, hl with | [_, _], _ => rfl⟩
  have o_require_state : FnOk P w K mg base (L2N.CX P w) 5 (He.fAd K ("require_state", none)) fd_require_state ["score", "state"] (lift ⟨K, OpS K, fun _ => 0⟩ fs_require_state) := vfn F_require_state sc_require_state l_require_state fv_require_state (d_require_state M (g_is_state_of.mono (by decide)))
  have g_require_state : Gd P w ⟨K, OpS K, fun _ => 0⟩ mg base 5 "require_state" fs_require_state ["score", "state"] [] := ⟨_, _, He.glo_ok X G (c.fact 20 (f := .glo "require_state") rfl), F_require_state.kp, o_require_state, [], .nil, FunD.bindsN F_require_state fun _ _ _ _ _ _ us hl => match us, hl with | [_, _], _ => rfl⟩
  have o_counter_here : FnOk P w K mg base (L2N.CX P w) 1 (He.fAd K ("counter_here", none)) fd_counter_here ["state"] (lift ⟨K, OpS K, fun _ => 0⟩ fs_counter_hereD) := vfn F_counter_here sc_counter_here l_counter_here fv_counter_hereD (d_counter_here M )
  have g_counter_here : Gd P w ⟨K, OpS K, fun _ => 0⟩ mg base 1 "counter_here" fs_counter_hereD ["state"] [] := ⟨_, _, He.glo_ok X G (c.fact 21 (f := .glo "counter_here") rfl), F_counter_here.kp, o_counter_here, [], .nil, FunD.bindsN F_counter_here fun _ _ _ _ _ _ us hl => match us, hl with | [_], _ => rfl⟩
  have o_step_from : FnOk P w K mg base (L2N.CX P w) 2 (He.fAd K ("step_from", none)) fd_step_from ["score", "starts", "state"] (lift ⟨K, OpS K, fun _ => 0⟩ fs_step_fromD) := vfn F_step_from sc_step_from l_step_from fv_step_fromD (d_step_from M (g_counter_here.mono (by decide)))
  have g_step_from : Gd P w ⟨K, OpS K, fun _ => 0⟩ mg base 2 "step_from" fs_step_fromD ["score", "starts", "state"] [] := ⟨_, _, He.glo_ok X G (c.fact 22 (f := .glo "step_from") rfl), F_step_from.kp, o_step_from, [], .nil, FunD.bindsN F_step_from fun _ _ _ _ _ _ us hl => match us, hl with | [_, _, _], _ => rfl⟩
  have o_next_step : FnOk P w K mg base (L2N.CX P w) 6 (He.fAd K ("next_step", none)) fd_next_step ["score", "state"] (lift ⟨K, OpS K, fun _ => 0⟩ fs_next_stepD) := vfn F_next_step sc_next_step l_next_step fv_next_stepD (d_next_step M (g_require_score.mono (by decide)) (g_require_state.mono (by decide)) (g_segment_starts.mono (by decide)) (g_step_from.mono (by decide)))
  have g_next_step : Gd P w ⟨K, OpS K, fun _ => 0⟩ mg base 6 "next_step" fs_next_stepD ["score", "state"] [] := ⟨_, _, He.glo_ok X G (c.fact 23 (f := .glo "next_step") rfl), F_next_step.kp, o_next_step, [], .nil, FunD.bindsN F_next_step fun _ _ _ _ _ _ us hl => match us, hl with | [_, _], _ => rfl⟩
  have k_next_step : GdK P w ⟨K, OpS K, fun _ => 0⟩ mg base 6 "next_step" fs_next_stepD ["score", "state"] ["state", "score"] [1, 0] := ⟨_, _, He.glo_ok X G (c.fact 23 (f := .glo "next_step") rfl), F_next_step.kp, o_next_step, FunD.bindsKw F_next_step fun _ _ _ _ _ _ ws hl => match ws, hl with | [_, _], _ => rfl⟩
  have o_previous_state : FnOk P w K mg base (L2N.CX P w) 6 (He.fAd K ("previous_state", none)) fd_previous_state ["score", "state"] (lift ⟨K, OpS K, fun _ => 0⟩ fs_previous_stateD) := vfn F_previous_state sc_previous_state l_previous_state fv_previous_stateD (d_previous_state M (g_require_score.mono (by decide)) (g_require_state.mono (by decide)) (g_segment_starts.mono (by decide)))
  have g_previous_state : Gd P w ⟨K, OpS K, fun _ => 0⟩ mg base 6 "previous_state" fs_previous_stateD ["score", "state"] [] := ⟨_, _, He.glo_ok X G (c.fact 24 (f := .glo "previous_state") rfl), F_previous_state.kp, o_previous_state, [], .nil, FunD.bindsN F_previous_state fun _ _ _ _ _ _ us hl => match us, hl with | [_, _], _ => rfl⟩
  have k_previous_state : GdK P w ⟨K, OpS K, fun _ => 0⟩ mg base 6 "previous_state" fs_previous_stateD ["score", "state"] ["state", "score"] [1, 0] := ⟨_, _, He.glo_ok X G (c.fact 24 (f := .glo "previous_state") rfl), F_previous_state.kp, o_previous_state, FunD.bindsKw F_previous_state fun _ _ _ _ _ _ ws hl => match ws, hl with | [_, _], _ => rfl⟩
  exact fun s H args us vs Q E hr e0 hbd r hsp => law_run F_law sc_law fv_law (d_law M (g_law_deck.mono (by decide)) (g_law_draw.mono (by decide)) (g_law_same.mono (by decide)) (g_law_small.mono (by decide)) (g_law_walk.mono (by decide)) (g_next_step.mono (by decide)) (g_previous_state.mono (by decide)) (k_next_step.mono (by decide)) (k_previous_state.mono (by decide)) hnd) s H args us vs Q E hr e0 hbd r hsp
end K05
open PySem PySem.W PySem.Calls PyProof.Rows
theorem PySem.Challenge.cw_wornsigns_k05_steps_one_by_one_holds : PySem.Challenge.rw_wornsigns_k05_steps_one_by_one.Holds := by
  w_on; o_law
  refine HandSHeadRun.head_any (r := OpenLaw.row PySem.Challenge.rw_wornsigns_k05_steps_one_by_one) (q := view (OpenLaw.row PySem.Challenge.rw_wornsigns_k05_steps_one_by_one).prog [41]) (H := K05.hk) (ob := K05.ob) (M := 4000) (loose := K05.loose) (d := HandSHeadRun.topDef (OpenLaw.row PySem.Challenge.rw_wornsigns_k05_steps_one_by_one).prog 41) (kwd := []) K05.ob_eq
    (by kernel_rfl) (fun s => by kernel_rfl) K05.run (by kernel_rfl) (by kernel_rfl) (by kernel_rfl) (by rfl) (by first | assumption | decide +kernel) (by decide +kernel) ⟨rfl, rfl, rfl, rfl, rfl, by decide +kernel⟩ ?hw ?hc
  case hw => w_witness2
  case hc =>
    refine VL.walk_lawB (l := PySem.Challenge.rw_wornsigns_k05_steps_one_by_one) (k := 8) (y := "_law_script") rfl (by kernel_rfl) ⟨rfl, by decide, by decide⟩ ?F
    intro w mg fa h Y G hmg0
    obtain ⟨K, KX, c⟩ := Y
    have hmg : mg ("law" : PySem.Str) = some (.ref fa) := by
      have e : (HandSHeadRun.topDef (OpenLaw.row PySem.Challenge.rw_wornsigns_k05_steps_one_by_one).prog 41).name = ("law" : PySem.Str) := by kernel_rfl
      rw [← e]
      exact hmg0
    obtain ⟨fd, hb, hF⟩ := K05.facts (P := (PySem.Challenge.rw_wornsigns_k05_steps_one_by_one).prog) (w := w) KX G hmg c
    exact ⟨K, fd, KX, hb, hF⟩
