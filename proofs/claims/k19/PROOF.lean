import PyProof.Rows.All
import Wide.All
import OpenK.AllK
import Wide.FinOn
import HandS.ForMost
import HandS.ForExc
import HandS.IsInst
import HandS.Wide
import HandS.Deep
import HandS.DictComp
import HandS.Flow
import HandS.CallSlots
import HandS.ExcCtx
import HandS.Style
import HandS.SortInts
import HandS.More
import HandS.Defaults
import HandS.HeadHook2
import PyProof.Rows.SortShellAny
import PyProof.EqAt
import PyProof.EqKinds
import PyProof.TupleCall
import HandS.Base
import HandS.Call
import HandS.List
import HandS.Dict
import HandS.HeadEnd
import HandS.Head2
import HandS.Head0
import HandS.Head1
import HandS.HeadHook1
import HandS.WideBits
import HandS.Keys
import HandS.SetFor
import HandS.Strs
import HandS.Zip
import KE.KDictPairs
import HandS.HeadHook3
import HandS.ExcInit
import HandS.TryOnly
import HandS.Words
import HandS.ExcIs
import HandS.ExcValue
import HandS.Hot
import HandS.HotCalls
import PyProof.Rows.Digits
import PyProof.ReprRoads
import PyProof.ReprBulk
import PyProof.ListStr
import HandS.Conv
import HandS.TupAny
import HandS.FStr
import HandS.Text
import Lean
import KE.KStateDown
import PySem.Challenge.RW_wornsigns_k19_normal_forms
set_option Elab.async false
set_option linter.all false
set_option maxRecDepth 100000
namespace VL
open PySem L2

abbrev St := L2.St
abbrev D := PyData
abbrev Fg := PySem.W.Frag

def Ext (H H' : Hp) : Prop := ∀ a o, H a = some o → H' a = some o
theorem Ext.refl (H : Hp) : Ext H H := fun _ _ h => h
theorem Ext.trans {H H1 H2 : Hp} (a : Ext H H1) (b : Ext H1 H2) : Ext H H2 := fun x o h => b x o (a x o h)
theorem Ext.none_of {H H' : Hp} (e : Ext H H') {a : Addr} (h : H' a = none) : H a = none := by
  cases q : H a with
  | none => rfl
  | some o => rw [e a o q] at h; cases h
theorem Ext.new {H : Hp} {p : Addr} {o : HO} (h : H p = none) : Ext H (upd H p o) := fun a u e => by
  rw [upd_ne (ne_of_none e h)]; exact e
theorem Ext.rd {H H' : Hp} {a : Addr} {u : HO} (e : Ext H H') (h : Rd H a u) : Rd H' a u := by
  rcases h with h | ⟨o, h⟩
  · exact .inl (e a _ h)
  · exact .inr ⟨o, e a _ h⟩
theorem Ext.sqL {K : Fg} {H H' : Hp} {a : Addr} {xs : List V} (e : Ext H H') (h : SqL K H a xs) : SqL K H' a xs := by
  rcases h with h | h
  · exact .inl (e.rd h)
  · exact .inr h
theorem Ext.sqT {K : Fg} {H H' : Hp} {a : Addr} {xs : List V} (e : Ext H H') (h : SqT K H a xs) : SqT K H' a xs := by
  rcases h with h | h
  · exact .inl (e.rd h)
  · exact .inr h

def kD : Key → D
  | .inl i => .int i
  | .inr x => .str x

mutual
inductive Rep (K : Fg) (H : Hp) : V → D → Prop
  | non : Rep K H .non .none
  | bl (b : Bool) : Rep K H (.bl b) (.bool b)
  | int (i : Int) : Rep K H (.int i) (.int i)
  | str (x : Str) : Rep K H (.str x) (.str x)
  | lst {a : Addr} {xs : List V} {ds : List D} : H a = some (.lst xs) → Reps K H xs ds → Rep K H (.ref a) (.list ds)
  | tup {a : Addr} {xs : List V} {ds : List D} : H a = some (.tup xs) → Reps K H xs ds → Rep K H (.ref a) (.tuple ds)
  | dct {a : Addr} {kvs : List (Key × V)} {ps : List (D × D)} : Rd H a (.dK kvs) → RepKV K H kvs ps → Rep K H (.ref a) (.dict ps)
inductive Reps (K : Fg) (H : Hp) : List V → List D → Prop
  | nil : Reps K H [] []
  | cons {v : V} {vs : List V} {d : D} {ds : List D} : Rep K H v d → Reps K H vs ds → Reps K H (v :: vs) (d :: ds)
inductive RepKV (K : Fg) (H : Hp) : List (Key × V) → List (D × D) → Prop
  | nil : RepKV K H [] []
  | cons {k : Key} {v : V} {kvs : List (Key × V)} {d : D} {ps : List (D × D)} : Rep K H v d → RepKV K H kvs ps → RepKV K H ((k, v) :: kvs) ((kD k, d) :: ps)
end

section
variable {K : Fg} {H H' : Hp}
mutual
theorem Rep.mono (e : Ext H H') : ∀ {v : V} {d : D}, Rep K H v d → Rep K H' v d
  | _, _, .non => .non
  | _, _, .bl b => .bl b
  | _, _, .int i => .int i
  | _, _, .str x => .str x
  | _, _, .lst h r => .lst (e _ _ h) (Reps.mono e r)
  | _, _, .tup h r => .tup (e _ _ h) (Reps.mono e r)
  | _, _, .dct h r => .dct (e.rd h) (RepKV.mono e r)
theorem Reps.mono (e : Ext H H') : ∀ {vs : List V} {ds : List D}, Reps K H vs ds → Reps K H' vs ds
  | _, _, .nil => .nil
  | _, _, .cons h r => .cons (Rep.mono e h) (Reps.mono e r)
theorem RepKV.mono (e : Ext H H') : ∀ {kvs : List (Key × V)} {ps : List (D × D)}, RepKV K H kvs ps → RepKV K H' kvs ps
  | _, _, .nil => .nil
  | _, _, .cons h r => .cons (Rep.mono e h) (RepKV.mono e r)
end
theorem Reps.length : ∀ {vs : List V} {ds : List D}, Reps K H vs ds → vs.length = ds.length
  | _, _, .nil => rfl
  | _, _, .cons _ r => congrArg (· + 1) (Reps.length r)
theorem Reps.get : ∀ {vs : List V} {ds : List D} {i : Nat} {d : D}, Reps K H vs ds → ds[i]? = some d → ∃ v, vs[i]? = some v ∧ Rep K H v d
  | _, _, _, _, .nil, e => by simp at e
  | _, _, 0, _, .cons h _, e => by simp at e; subst e; exact ⟨_, rfl, h⟩
  | _, _, i + 1, d, .cons _ r, e => by
    obtain ⟨v, h1, h2⟩ := Reps.get (i := i) (d := d) r (by simpa using e)
    exact ⟨v, by simpa using h1, h2⟩
theorem Reps.get' : ∀ {vs : List V} {ds : List D} {i : Nat} {v : V}, Reps K H vs ds → vs[i]? = some v → ∃ d, ds[i]? = some d ∧ Rep K H v d
  | _, _, _, _, .nil, e => by simp at e
  | _, _, 0, _, .cons h _, e => by simp at e; subst e; exact ⟨_, rfl, h⟩
  | _, _, i + 1, d, .cons _ r, e => by
    obtain ⟨v, h1, h2⟩ := Reps.get' (i := i) (v := d) r (by simpa using e)
    exact ⟨v, by simpa using h1, h2⟩
theorem Reps.append : ∀ {vs ws : List V} {ds es : List D}, Reps K H vs ds → Reps K H ws es → Reps K H (vs ++ ws) (ds ++ es)
  | _, _, _, _, .nil, s => s
  | _, _, _, _, .cons h r, s => .cons h (Reps.append r s)
theorem Reps.one {v : V} {d : D} (h : Rep K H v d) : Reps K H [v] [d] := .cons h .nil
theorem Reps.take : ∀ {vs : List V} {ds : List D} (n : Nat), Reps K H vs ds → Reps K H (vs.take n) (ds.take n)
  | _, _, 0, _ => .nil
  | _, _, _ + 1, .nil => .nil
  | _, _, n + 1, .cons h r => .cons h (Reps.take n r)
theorem Reps.drop : ∀ {vs : List V} {ds : List D} (n : Nat), Reps K H vs ds → Reps K H (vs.drop n) (ds.drop n)
  | _, _, 0, r => r
  | _, _, _ + 1, .nil => .nil
  | _, _, n + 1, .cons _ r => Reps.drop n r
theorem Reps.reverse : ∀ {vs : List V} {ds : List D}, Reps K H vs ds → Reps K H vs.reverse ds.reverse
  | _, _, .nil => .nil
  | _, _, .cons h r => by
    rw [List.reverse_cons, List.reverse_cons]
    exact (Reps.reverse r).append (.one h)
theorem Reps.set {v : V} {d : D} (h : Rep K H v d) : ∀ {vs : List V} {ds : List D} (i : Nat), Reps K H vs ds → Reps K H (vs.set i v) (ds.set i d)
  | _, _, _, .nil => .nil
  | _, _, 0, .cons _ r => .cons h r
  | _, _, i + 1, .cons q r => .cons q (Reps.set h i r)
theorem Reps.eraseIdx : ∀ {vs : List V} {ds : List D} (i : Nat), Reps K H vs ds → Reps K H (vs.eraseIdx i) (ds.eraseIdx i)
  | _, _, _, .nil => .nil
  | _, _, 0, .cons _ r => r
  | _, _, i + 1, .cons q r => .cons q (Reps.eraseIdx i r)
theorem Reps.dropLast {vs : List V} {ds : List D} (r : Reps K H vs ds) : Reps K H vs.dropLast ds.dropLast := by
  rw [List.dropLast_eq_take, List.dropLast_eq_take, r.length]
  exact r.take _
theorem Reps.repl {vs : List V} {ds : List D} (r : Reps K H vs ds) : ∀ k : Nat, Reps K H (List.replicate k vs).flatten (List.replicate k ds).flatten
  | 0 => .nil
  | k + 1 => by
    rw [List.replicate_succ, List.replicate_succ, List.flatten_cons, List.flatten_cons]
    exact r.append (Reps.repl r k)
end

inductive Sl where
  | no
  | sh (d : D)
  | ow (d : D)
  | io (d : D)
  | op (t : Nat) (d : D)
abbrev Ev := List Sl

def swp (H : Hp) (a : Addr) (o : HO) : Hp := fun b => if b = a then (H a).map (fun _ => o) else H b
theorem swp_ne {H : Hp} {a b : Addr} {o : HO} (h : b ≠ a) : swp H a o b = H b := if_neg h
theorem swp_at {H : Hp} {a : Addr} {o u : HO} (h : H a = some u) : swp H a o a = some o := by
  unfold swp
  rw [if_pos rfl, h]; rfl
theorem swp_none {H : Hp} {a : Addr} {o : HO} (h : H a = none) : swp H a o a = none := by
  unfold swp
  rw [if_pos rfl, h]; rfl
theorem swp_some {H : Hp} {a b : Addr} {o v : HO} (h : swp H a o b = some v) : (b = a ∧ v = o ∧ ∃ u, H a = some u) ∨ (b ≠ a ∧ H b = some v) := by
  by_cases z : b = a
  · subst z
    unfold swp at h
    rw [if_pos rfl] at h
    cases e : H b with
    | none => rw [e] at h; cases h
    | some u => rw [e] at h; cases h; exact .inl ⟨rfl, rfl, u, rfl⟩
  · rw [swp_ne z] at h
    exact .inr ⟨z, h⟩
def Dual (kvs : List (Key × V)) (u u' : HO) : Prop := (u = .dK kvs ∨ ∃ od, u = .frz od (.dK kvs)) ∧ (u' = .dK kvs ∨ ∃ od, u' = .frz od (.dK kvs))
section
variable {K : Fg} {Hi H : Hp} {a : Addr} {u u' : HO} {kvs : List (Key × V)}
theorem Rd.swp {b : Addr} {ks : List (Key × V)} (ha : Hi a = some u) (d : Dual kvs u u') (h : Rd Hi b (.dK ks)) : Rd (swp Hi a u') b (.dK ks) := by
  by_cases z : b = a
  · subst z
    have e : kvs = ks := by
      rcases h with h | ⟨o, h⟩ <;> rcases d.1 with d1 | ⟨od, d1⟩ <;> rw [ha, d1] at h <;> cases h <;> rfl
    subst e
    rcases d.2 with d2 | ⟨od, d2⟩
    · exact .inl (by rw [swp_at ha, d2])
    · exact .inr ⟨od, by rw [swp_at ha, d2]⟩
  · rcases h with h | ⟨o, h⟩
    · exact .inl (by rw [swp_ne z]; exact h)
    · exact .inr ⟨o, by rw [swp_ne z]; exact h⟩
theorem swp_lst {b : Addr} {xs : List V} (ha : Hi a = some u) (d : Dual kvs u u') (h : Hi b = some (.lst xs)) : swp Hi a u' b = some (.lst xs) := by
  have : b ≠ a := fun z => by
    subst z
    rcases d.1 with d1 | ⟨od, d1⟩ <;> rw [ha, d1] at h <;> cases h
  rw [swp_ne this]; exact h
theorem swp_tup {b : Addr} {xs : List V} (ha : Hi a = some u) (d : Dual kvs u u') (h : Hi b = some (.tup xs)) : swp Hi a u' b = some (.tup xs) := by
  have : b ≠ a := fun z => by
    subst z
    rcases d.1 with d1 | ⟨od, d1⟩ <;> rw [ha, d1] at h <;> cases h
  rw [swp_ne this]; exact h
mutual
theorem Rep.swp (ha : Hi a = some u) (e : Dual kvs u u') : ∀ {v : V} {d : D}, Rep K Hi v d → Rep K (swp Hi a u') v d
  | _, _, .non => .non
  | _, _, .bl b => .bl b
  | _, _, .int i => .int i
  | _, _, .str x => .str x
  | _, _, .lst h r => .lst (swp_lst ha e h) (Reps.swp ha e r)
  | _, _, .tup h r => .tup (swp_tup ha e h) (Reps.swp ha e r)
  | _, _, .dct h r => .dct (Rd.swp ha e h) (RepKV.swp ha e r)
theorem Reps.swp (ha : Hi a = some u) (e : Dual kvs u u') : ∀ {vs : List V} {ds : List D}, Reps K Hi vs ds → Reps K (swp Hi a u') vs ds
  | _, _, .nil => .nil
  | _, _, .cons h r => .cons (Rep.swp ha e h) (Reps.swp ha e r)
theorem RepKV.swp (ha : Hi a = some u) (e : Dual kvs u u') : ∀ {ks : List (Key × V)} {ps : List (D × D)}, RepKV K Hi ks ps → RepKV K (swp Hi a u') ks ps
  | _, _, .nil => .nil
  | _, _, .cons h r => .cons (Rep.swp ha e h) (RepKV.swp ha e r)
end
end
structure OpSem where
  ok : Nat → D → Hp → Hp → Addr → List Addr → Prop
  loc : ∀ {t d Hi Hi' H H' p fp}, ok t d Hi H p fp → Ext Hi Hi' → (∀ a ∈ fp, H' a = H a) → ok t d Hi' H' p fp
  trk : ∀ {t d Hi H p fp}, ok t d Hi H p fp → ∀ a ∈ fp, ∃ o, H a = some o
  /-- a dict's cell is locked, opened -/
  swp : ∀ {t d Hi H p fp a u u' kvs}, ok t d Hi H p fp → Hi a = some u → Dual kvs u u' → (∀ b ∈ fp, b ≠ a) → ok t d (swp Hi a u') (swp H a u') p fp
  /-- a thing made in this def has its kind + 10 -/
  hnd : ∀ {t d Hi H p fp}, ok t d Hi H p fp ↔ ok (t % 10) d Hi H p fp

structure Gb where
  K : Fg
  Op : OpSem
  ca : Str → Addr
structure Exn where
  name : Str
  idx : Option V
def Gb.xr (G : Gb) (x : Exn) (c : Value) (d : Option Addr) (Hi : Hp) : Prop :=
  c = .ref (G.ca x.name) ∧ match x.idx with
    | none => d = none
    | some v => ∃ dx, d = some dx ∧ Hi dx = some (.xd [(("index" : Str), v)])
theorem xr_none {G : Gb} {x : Exn} {c : Value} {d : Option Addr} {Hi Hi' : Hp} (h : x.idx = none) (hx : G.xr x c d Hi) : G.xr x c d Hi' := by
  obtain ⟨h1, h2⟩ := hx
  rw [h] at h2
  exact ⟨h1, by rw [h]; exact h2⟩
structure Cf where
  H0 : Hp
  I0 : Hp
  io : Addr → Prop
  iot : ∀ a, io a → H0 a ≠ none
  /-- where the opaque thing of a kind stands, if it was handed in -/
  pa : Nat → Option Addr

inductive Own (K : Fg) (Hi H : Hp) : Addr → D → Prop
  | lst {p : Addr} {xs : List V} {ds : List D} : H p = some (.lst xs) → Reps K Hi xs ds → Own K Hi H p (.list ds)
  | dct {p : Addr} {kvs : List (Key × V)} {ps : List (D × D)} : H p = some (.dK kvs) → RepKV K Hi kvs ps → Own K Hi H p (.dict ps)
theorem Own.trk {K : Fg} {Hi H : Hp} {p : Addr} {d : D} (h : Own K Hi H p d) : ∃ o, H p = some o := by
  cases h with
  | lst h _ => exact ⟨_, h⟩
  | dct h _ => exact ⟨_, h⟩
theorem Own.to {K : Fg} {Hi Hi' H H' : Hp} {p : Addr} {d : D} (h : Own K Hi H p d) (e : Ext Hi Hi') (k : H' p = H p) : Own K Hi' H' p d := by
  cases h with
  | lst h r => exact .lst (by rw [k]; exact h) (r.mono e)
  | dct h r => exact .dct (by rw [k]; exact h) (r.mono e)
theorem Own.rep {K : Fg} {Hi H : Hp} {p : Addr} {d : D} {o : HO} (h : Own K Hi H p d) (ho : H p = some o) (hn : Hi p = none) : Rep K (upd Hi p o) (.ref p) d := by
  cases h with
  | lst h r => rw [ho] at h; cases h; exact .lst upd_same (r.mono (Ext.new hn))
  | dct h r => rw [ho] at h; cases h; exact .dct (.inl upd_same) (r.mono (Ext.new hn))

def SlOk (G : Gb) (C : Cf) (Hi H : Hp) (x : Option V) (fp : List Addr) : Sl → Prop
  | .no => fp = []
  | .sh d => fp = [] ∧ ∃ v, x = some v ∧ Rep G.K Hi v d
  | .ow d => ∃ p, fp = [p] ∧ x = some (.ref p) ∧ Own G.K Hi H p d ∧ C.H0 p = none
  | .io d => ∃ p, fp = [p] ∧ x = some (.ref p) ∧ Own G.K Hi H p d ∧ C.io p
  | .op t d => ∃ p, x = some (.ref p) ∧ G.Op.ok t d Hi H p fp ∧ (∀ a ∈ fp, C.H0 a = none ∨ (t < 10 ∧ C.io a)) ∧ ∀ q, t < 10 → C.pa t = some q → p = q

structure Core (G : Gb) (C : Cf) (Hi : Hp) (σ : St) (H : Hp) (Γ : Ev) (fp : Nat → List Addr) : Prop where
  frame : ∀ a o, C.H0 a = some o → ¬ C.io a → H a = some o
  live : ∀ a, C.H0 a ≠ none → H a ≠ none
  imm : Ext Hi H
  base : Ext C.I0 Hi
  ov : ∀ a o, Hi a = some o → C.I0 a = some o ∨ C.H0 a = none
  len : Γ.length = σ.length
  sl : ∀ i s, Γ[i]? = some s → ∃ x, σ[i]? = some x ∧ SlOk G C Hi H x (fp i) s
  dj : ∀ i j a, i < Γ.length → j < Γ.length → a ∈ fp i → a ∈ fp j → i = j
  av : ∀ i a, i < Γ.length → a ∈ fp i → Hi a = none
def Rel (G : Gb) (C : Cf) (Hi : Hp) (σ : St) (H : Hp) (Γ : Ev) : Prop := ∃ fp, Core G C Hi σ H Γ fp

section
variable {G : Gb} {C : Cf} {Hi Hi' H H' : Hp} {σ : St} {Γ : Ev} {fp : Nat → List Addr}
theorem SlOk.to {x : Option V} {l : List Addr} {s : Sl} (h : SlOk G C Hi H x l s) (e : Ext Hi Hi') (k : ∀ a ∈ l, H' a = H a) : SlOk G C Hi' H' x l s := by
  cases s with
  | no => exact h
  | sh d => obtain ⟨h0, v, h1, h2⟩ := h; exact ⟨h0, v, h1, h2.mono e⟩
  | ow d => obtain ⟨p, h0, h1, h2, h3⟩ := h; exact ⟨p, h0, h1, h2.to e (k p (by rw [h0]; simp)), h3⟩
  | io d => obtain ⟨p, h0, h1, h2, h3⟩ := h; exact ⟨p, h0, h1, h2.to e (k p (by rw [h0]; simp)), h3⟩
  | op t d => obtain ⟨p, h1, h2, h3⟩ := h; exact ⟨p, h1, G.Op.loc h2 e k, h3⟩
theorem SlOk.trk {x : Option V} {l : List Addr} {s : Sl} (h : SlOk G C Hi H x l s) : ∀ a ∈ l, ∃ o, H a = some o := by
  cases s with
  | no => intro a ha; rw [show l = [] from h] at ha; cases ha
  | sh d => obtain ⟨h0, _⟩ := h; intro a ha; rw [h0] at ha; cases ha
  | ow d =>
    obtain ⟨p, h0, h1, h2, _⟩ := h; intro a ha
    rw [h0] at ha
    have : a = p := by simpa using ha
    subst this; exact h2.trk
  | io d =>
    obtain ⟨p, h0, h1, h2, _⟩ := h; intro a ha
    rw [h0] at ha
    have : a = p := by simpa using ha
    subst this; exact h2.trk
  | op t d => obtain ⟨p, h1, h2, _⟩ := h; exact G.Op.trk h2
theorem SlOk.home {x : Option V} {l : List Addr} {s : Sl} (h : SlOk G C Hi H x l s) : ∀ a ∈ l, C.H0 a = none ∨ C.io a := by
  cases s with
  | no => intro a ha; rw [show l = [] from h] at ha; cases ha
  | sh d => obtain ⟨h0, _⟩ := h; intro a ha; rw [h0] at ha; cases ha
  | ow d =>
    obtain ⟨p, h0, h1, h2, h3⟩ := h; intro a ha
    rw [h0] at ha
    have : a = p := by simpa using ha
    subst this; exact .inl h3
  | io d =>
    obtain ⟨p, h0, h1, h2, h3⟩ := h; intro a ha
    rw [h0] at ha
    have : a = p := by simpa using ha
    subst this; exact .inr h3
  | op t d => obtain ⟨p, h1, h2, h3, _⟩ := h; exact fun a ha => (h3 a ha).imp id (·.2)
theorem Core.trk (c : Core G C Hi σ H Γ fp) {i : Nat} {a : Addr} (hi : i < Γ.length) (ha : a ∈ fp i) : ∃ o, H a = some o := by
  obtain ⟨x, _, h⟩ := c.sl i _ (List.getElem?_eq_getElem hi)
  exact h.trk a ha
theorem Core.home (c : Core G C Hi σ H Γ fp) {i : Nat} {a : Addr} (hi : i < Γ.length) (ha : a ∈ fp i) : C.H0 a = none ∨ C.io a := by
  obtain ⟨x, _, h⟩ := c.sl i _ (List.getElem?_eq_getElem hi)
  exact h.home a ha
theorem Core.fresh (c : Core G C Hi σ H Γ fp) {p : Addr} (h : H p = none) : Hi p = none ∧ C.H0 p = none := by
  refine ⟨c.imm.none_of h, ?_⟩
  cases q : C.H0 p with
  | none => rfl
  | some o => exact absurd h (c.live p (by rw [q]; simp))
theorem Core.step {H' : Hp} {i : Nat} {x : Option V} {l : List Addr} {s : Sl} (c : Core G C Hi σ H Γ fp) (hi : i < Γ.length) (e : Ext Hi Hi')
    (k : ∀ a o, H a = some o → a ∉ fp i → H' a = some o) (lv : ∀ a, a ∈ fp i → H' a ≠ none) (im : Ext Hi' H') (ov : ∀ a o, Hi' a = some o → Hi a = some o ∨ C.H0 a = none)
    (sok : SlOk G C Hi' H' x l s) (nw : ∀ a ∈ l, Hi' a = none ∧ ∀ j, j < Γ.length → j ≠ i → a ∉ fp j) (no : ∀ j a, j < Γ.length → j ≠ i → a ∈ fp j → Hi' a = none) :
    Core G C Hi' (σ.set i x) H' (Γ.set i s) (fun j => if j = i then l else fp j) where
  frame := fun a o h n => by
    refine k a o (c.frame a o h n) fun ha => ?_
    rcases c.home hi ha with q | q
    · rw [h] at q; cases q
    · exact n q
  live := fun a h => by
    by_cases ha : a ∈ fp i
    · exact lv a ha
    · have := c.live a h
      cases q : H a with
      | none => exact absurd q this
      | some o => rw [k a o q ha]; simp
  imm := im
  base := c.base.trans e
  ov := fun a o h => by
    rcases ov a o h with q | q
    · exact c.ov a o q
    · exact .inr q
  len := by rw [List.length_set, List.length_set]; exact c.len
  sl := fun j s' h => by
    have hi' : i < σ.length := by rw [← c.len]; exact hi
    by_cases hj : j = i
    · subst hj
      rw [List.getElem?_set_self hi] at h
      cases h
      exact ⟨x, List.getElem?_set_self hi', by rw [if_pos rfl]; exact sok⟩
    · rw [List.getElem?_set_ne (Ne.symm hj)] at h
      obtain ⟨y, h1, h2⟩ := c.sl j s' h
      refine ⟨y, by rw [List.getElem?_set_ne (Ne.symm hj)]; exact h1, ?_⟩
      rw [if_neg hj]
      have hjl : j < Γ.length := (List.getElem?_eq_some_iff.mp h).1
      refine h2.to e fun a ha => ?_
      obtain ⟨o, ho⟩ := h2.trk a ha
      rw [ho]
      exact k a o ho fun z => hj (c.dj j i a hjl hi ha z)
  dj := fun j m a hj hm h1 h2 => by
    rw [List.length_set] at hj hm
    by_cases ej : j = i <;> by_cases em : m = i
    · rw [ej, em]
    · rw [if_pos ej] at h1; rw [if_neg em] at h2
      exact absurd h2 ((nw a h1).2 m hm em)
    · rw [if_neg ej] at h1; rw [if_pos em] at h2
      exact absurd h1 ((nw a h2).2 j hj ej)
    · rw [if_neg ej] at h1; rw [if_neg em] at h2
      exact c.dj j m a hj hm h1 h2
  av := fun j a hj h => by
    rw [List.length_set] at hj
    by_cases ej : j = i
    · rw [if_pos ej] at h; exact (nw a h).1
    · rw [if_neg ej] at h; exact no j a hj ej h
theorem Core.put {i : Nat} {x : Option V} {l : List Addr} {s : Sl} (c : Core G C Hi σ H Γ fp) (hi : i < Γ.length) (sok : SlOk G C Hi H x l s)
    (nw : ∀ a ∈ l, Hi a = none ∧ ∀ j, j < Γ.length → j ≠ i → a ∉ fp j) : Core G C Hi (σ.set i x) H (Γ.set i s) (fun j => if j = i then l else fp j) :=
  c.step hi (Ext.refl _) (fun _ _ h _ => h) (fun a ha => by obtain ⟨o, h⟩ := c.trk hi ha; rw [h]; simp) c.imm (fun _ _ h => .inl h) sok nw fun j a hj _ h => c.av j a hj h
theorem Rel.put_sh {i : Nat} {v : V} {d : D} (c : Rel G C Hi σ H Γ) (hi : i < Γ.length) (r : Rep G.K Hi v d) : Rel G C Hi (σ.set i (some v)) H (Γ.set i (.sh d)) :=
  let ⟨_, c⟩ := c
  ⟨_, c.put (l := []) hi ⟨rfl, v, rfl, r⟩ fun a ha => nomatch ha⟩
theorem Rel.put_no {i : Nat} {x : Option V} (c : Rel G C Hi σ H Γ) (hi : i < Γ.length) : Rel G C Hi (σ.set i x) H (Γ.set i .no) :=
  let ⟨_, c⟩ := c
  ⟨_, c.put (l := []) hi rfl fun a ha => nomatch ha⟩
theorem Core.push {x : Option V} {l : List Addr} {s : Sl} (c : Core G C Hi σ H Γ fp) (k : Ext H H') (sok : SlOk G C Hi H' x l s) (nw : ∀ a ∈ l, H a = none) :
    Core G C Hi (σ ++ [x]) H' (Γ ++ [s]) (fun j => if j = Γ.length then l else fp j) where
  frame := fun a o h n => k a o (c.frame a o h n)
  live := fun a h => by
    cases q : H a with
    | none => exact absurd q (c.live a h)
    | some o => rw [k a o q]; simp
  imm := c.imm.trans k
  base := c.base
  ov := c.ov
  len := by simp [c.len]
  sl := fun j s' h => by
    by_cases hj : j < Γ.length
    · rw [List.getElem?_append_left hj] at h
      obtain ⟨y, h1, h2⟩ := c.sl j s' h
      refine ⟨y, by rw [List.getElem?_append_left (by rw [← c.len]; exact hj)]; exact h1, ?_⟩
      rw [if_neg (Nat.ne_of_lt hj)]
      refine h2.to (Ext.refl _) fun a ha => ?_
      obtain ⟨o, ho⟩ := h2.trk a ha
      rw [ho]; exact k a o ho
    · rw [List.getElem?_append_right (Nat.le_of_not_lt hj)] at h
      have hj0 : j - Γ.length = 0 := by
        have := (List.getElem?_eq_some_iff.mp h).1
        simp at this; omega
      rw [hj0] at h
      simp at h; subst h
      have : j = Γ.length := by omega
      subst this
      refine ⟨x, by rw [c.len]; simp, ?_⟩
      rw [if_pos rfl]; exact sok
  dj := fun j m a hj hm h1 h2 => by
    simp at hj hm
    by_cases ej : j = Γ.length <;> by_cases em : m = Γ.length
    · rw [ej, em]
    · rw [if_pos ej] at h1; rw [if_neg em] at h2
      obtain ⟨o, ho⟩ := c.trk (show m < Γ.length by omega) h2
      rw [nw a h1] at ho; cases ho
    · rw [if_neg ej] at h1; rw [if_pos em] at h2
      obtain ⟨o, ho⟩ := c.trk (show j < Γ.length by omega) h1
      rw [nw a h2] at ho; cases ho
    · rw [if_neg ej] at h1; rw [if_neg em] at h2
      exact c.dj j m a (by omega) (by omega) h1 h2
  av := fun j a hj h => by
    simp at hj
    by_cases ej : j = Γ.length
    · rw [if_pos ej] at h; exact c.imm.none_of (nw a h)
    · rw [if_neg ej] at h; exact c.av j a (by omega) h
theorem Rel.alloc {p : Addr} {o : HO} {d : D} (c : Rel G C Hi σ H Γ) (hp : H p = none) (ow : Own G.K Hi (upd H p o) p d) : Rel G C Hi (σ ++ [some (.ref p)]) (upd H p o) (Γ ++ [.ow d]) :=
  let ⟨_, c⟩ := c
  ⟨_, c.push (l := [p]) (Ext.new hp) ⟨p, rfl, rfl, ow, (c.fresh hp).2⟩ fun a ha => by
    have : a = p := by simpa using ha
    rw [this]; exact hp⟩
theorem Rel.trunc {σ2 : St} {Γ2 : Ev} (c : Rel G C Hi (σ ++ σ2) H (Γ ++ Γ2)) (hl : Γ.length = σ.length) : Rel G C Hi σ H Γ := by
  obtain ⟨fp, c⟩ := c
  refine ⟨fp, c.frame, c.live, c.imm, c.base, c.ov, hl, fun j s h => ?_, fun i j a hi hj => c.dj i j a (by simp; omega) (by simp; omega), fun i a hi => c.av i a (by simp; omega)⟩
  have hj : j < Γ.length := (List.getElem?_eq_some_iff.mp h).1
  obtain ⟨x, h1, h2⟩ := c.sl j s (by rw [List.getElem?_append_left hj]; exact h)
  exact ⟨x, by rw [List.getElem?_append_left (by omega)] at h1; exact h1, h2⟩
theorem Rel.freeze {i : Nat} {d : D} (c : Rel G C Hi σ H Γ) (h : Γ[i]? = some (.ow d)) : ∃ Hi', Ext Hi Hi' ∧ Rel G C Hi' σ H (Γ.set i (.sh d)) := by
  obtain ⟨fp, c⟩ := c
  obtain ⟨x, hx, p, hf, e, ow, h0⟩ := c.sl i _ h
  have hi : i < Γ.length := (List.getElem?_eq_some_iff.mp h).1
  have hin : Hi p = none := c.av i p hi (by rw [hf]; simp)
  obtain ⟨o, ho⟩ := ow.trk
  have ex : Ext Hi (upd Hi p o) := Ext.new hin
  refine ⟨upd Hi p o, ex, ?_⟩
  have hs : σ.set i x = σ := by
    obtain ⟨hl, e1⟩ := List.getElem?_eq_some_iff.mp hx
    rw [← e1]; exact List.set_getElem_self hl
  have st := c.step (H' := H) (Hi' := upd Hi p o) (x := x) (l := []) (s := .sh d) hi ex (fun a o' h _ => h) (fun a ha => by obtain ⟨o', h'⟩ := c.trk hi ha; rw [h']; simp)
    (fun a u hu => by
      by_cases ha : a = p
      · subst ha; rw [upd_same] at hu; cases hu; exact ho
      · rw [upd_ne ha] at hu; exact c.imm a u hu)
    (fun a u hu => by
      by_cases ha : a = p
      · subst ha; exact .inr h0
      · rw [upd_ne ha] at hu; exact .inl hu)
    ⟨rfl, .ref p, e, ow.rep ho hin⟩ (fun a ha => nomatch ha)
    (fun j a hj hne ha => by
      have : a ≠ p := fun z => hne (c.dj j i a hj hi ha (by rw [hf, z]; simp))
      rw [upd_ne this]; exact c.av j a hj ha)
  rw [hs] at st
  exact ⟨_, st⟩
end

inductive R where
  | sh (d : D)
  | ow (d : D)
  | vr (i : Nat)
  | op (t : Nat) (d : D)
def rdW (r : R) (Γ : Ev) (k : D → Prop) : Prop := match r with
  | .sh d => k d
  | .ow d => k d
  | .vr i => match Γ[i]? with
    | some (.sh d) => k d
    | some (.ow d) => k d
    | some (.io d) => k d
    | _ => False
  | .op _ _ => False
def frW (r : R) (Γ : Ev) (k : D → Ev → Prop) : Prop := match r with
  | .sh d => k d Γ
  | .ow d => k d Γ
  | .vr i => match Γ[i]? with
    | some (.sh d) => k d Γ
    | some (.ow d) => k d (Γ.set i (.sh d))
    | _ => False
  | .op _ _ => False
abbrev XW := Exn → Ev → Prop
abbrev WE := Ev → (R → Ev → Prop) → XW → Prop
abbrev WT := Ev → (Bool → Ev → Prop) → XW → Prop
abbrev WA := Ev → (List R → Ev → Prop) → XW → Prop
structure WD where
  nx : Ev → Prop
  rt : R → Ev → Prop
  bk : Ev → Prop
  ct : Ev → Prop
abbrev WS := Ev → WD → XW → Prop

def Out (G : Gb) (C : Cf) (Hi : Hp) (σ : St) (H : Hp) (Γ : Ev) (v : V) : R → Prop
  | .sh d => Rel G C Hi σ H Γ ∧ Rep G.K Hi v d
  | .ow d => Γ.length = σ.length ∧ Rel G C Hi (σ ++ [some v]) H (Γ ++ [.ow d])
  | .vr i => Rel G C Hi σ H Γ ∧ σ[i]? = some (some v)
  | .op t d => Γ.length = σ.length ∧ Rel G C Hi (σ ++ [some v]) H (Γ ++ [.op t d])
def Hold (G : Gb) (Hi : Hp) (σ : St) (v : V) : R → Prop
  | .sh d => Rep G.K Hi v d
  | .ow d => Rep G.K Hi v d
  | .vr i => σ[i]? = some (some v)
  | .op _ _ => True
def Rdb (K : Fg) (Hi H : Hp) (v : V) (d : D) : Prop := Rep K Hi v d ∨ ∃ p, v = .ref p ∧ Own K Hi H p d

section
variable {G : Gb} {C : Cf} {Hi Hi' H H' : Hp} {σ : St} {Γ : Ev} {v : V} {r : R}
theorem Rel.len (c : Rel G C Hi σ H Γ) : Γ.length = σ.length := let ⟨_, c⟩ := c; c.len
theorem Rel.imm (c : Rel G C Hi σ H Γ) : Ext Hi H := let ⟨_, c⟩ := c; c.imm
theorem Hold.mono (h : Hold G Hi σ v r) (e : Ext Hi Hi') : Hold G Hi' σ v r := by
  cases r with
  | sh d => exact Rep.mono e h
  | ow d => exact Rep.mono e h
  | vr i => exact h
  | op t d => trivial
theorem Rel.settle {d : D} (hl : Γ.length = σ.length) (c : Rel G C Hi (σ ++ [some v]) H (Γ ++ [.ow d])) : ∃ Hi', Ext Hi Hi' ∧ Rel G C Hi' σ H Γ ∧ Rep G.K Hi' v d := by
  obtain ⟨Hi', e, c'⟩ := Rel.freeze (i := Γ.length) (d := d) c (by simp)
  have e1 : (Γ ++ [Sl.ow d]).set Γ.length (.sh d) = Γ ++ [.sh d] := by simp
  rw [e1] at c'
  refine ⟨Hi', e, c'.trunc hl, ?_⟩
  obtain ⟨fp, c'⟩ := c'
  obtain ⟨x, hx, _, w, hw, rw'⟩ := c'.sl Γ.length (.sh d) (by simp)
  have : x = some v := by
    rw [hl] at hx
    simpa using hx.symm
  rw [this] at hw; cases hw; exact rw'
theorem Out.hold (o : Out G C Hi σ H Γ v r) : ∃ Hi', Ext Hi Hi' ∧ Rel G C Hi' σ H Γ ∧ Hold G Hi' σ v r := by
  cases r with
  | sh d => exact ⟨Hi, Ext.refl _, o.1, o.2⟩
  | vr i => exact ⟨Hi, Ext.refl _, o.1, o.2⟩
  | op t d => exact ⟨Hi, Ext.refl _, o.2.trunc o.1, trivial⟩
  | ow d =>
    obtain ⟨Hi', e, c, h⟩ := Rel.settle o.1 o.2
    exact ⟨Hi', e, c, h⟩
theorem Rel.at_ow (c : Rel G C Hi σ H Γ) {i : Nat} {d : D} (h : Γ[i]? = some (.ow d)) : ∃ p, σ[i]? = some (some (.ref p)) ∧ Own G.K Hi H p d := by
  obtain ⟨fp, c⟩ := c
  obtain ⟨x, hx, p, _, e, ow, _⟩ := c.sl i _ h
  exact ⟨p, by rw [hx, e], ow⟩
theorem Rel.at_io (c : Rel G C Hi σ H Γ) {i : Nat} {d : D} (h : Γ[i]? = some (.io d)) : ∃ p, σ[i]? = some (some (.ref p)) ∧ Own G.K Hi H p d := by
  obtain ⟨fp, c⟩ := c
  obtain ⟨x, hx, p, _, e, ow, _⟩ := c.sl i _ h
  exact ⟨p, by rw [hx, e], ow⟩
theorem Rel.at_sh (c : Rel G C Hi σ H Γ) {i : Nat} {d : D} (h : Γ[i]? = some (.sh d)) : ∃ v, σ[i]? = some (some v) ∧ Rep G.K Hi v d := by
  obtain ⟨fp, c⟩ := c
  obtain ⟨x, hx, _, v, e, r⟩ := c.sl i _ h
  exact ⟨v, by rw [hx, e], r⟩
theorem Hold.read {k : D → Prop} (c : Rel G C Hi σ H Γ) (h : Hold G Hi σ v r) (q : rdW r Γ k) : ∃ d, Rdb G.K Hi H v d ∧ k d := by
  cases r with
  | sh d => exact ⟨d, .inl h, q⟩
  | ow d => exact ⟨d, .inl h, q⟩
  | vr i =>
    have h : σ[i]? = some (some v) := h
    unfold rdW at q
    dsimp only at q
    split at q
    · rename_i d e
      obtain ⟨w, h1, h2⟩ := c.at_sh e
      rw [h] at h1; cases h1
      exact ⟨d, .inl h2, q⟩
    · rename_i d e
      obtain ⟨p, h1, h2⟩ := c.at_ow e
      rw [h] at h1; cases h1
      exact ⟨d, .inr ⟨p, rfl, h2⟩, q⟩
    · rename_i d e
      obtain ⟨p, h1, h2⟩ := c.at_io e
      rw [h] at h1; cases h1
      exact ⟨d, .inr ⟨p, rfl, h2⟩, q⟩
    · exact q.elim
  | op t d => exact q.elim
theorem Hold.share {k : D → Ev → Prop} (c : Rel G C Hi σ H Γ) (h : Hold G Hi σ v r) (q : frW r Γ k) : ∃ d Hi' Γ', Ext Hi Hi' ∧ Rel G C Hi' σ H Γ' ∧ Rep G.K Hi' v d ∧ k d Γ' := by
  cases r with
  | sh d => exact ⟨d, Hi, Γ, Ext.refl _, c, h, q⟩
  | ow d => exact ⟨d, Hi, Γ, Ext.refl _, c, h, q⟩
  | vr i =>
    have h : σ[i]? = some (some v) := h
    unfold frW at q
    dsimp only at q
    split at q
    · rename_i d e
      obtain ⟨w, h1, h2⟩ := c.at_sh e
      rw [h] at h1; cases h1
      exact ⟨d, Hi, Γ, Ext.refl _, c, h2, q⟩
    · rename_i d e
      obtain ⟨Hi', e', c'⟩ := Rel.freeze c e
      obtain ⟨w, h1, h2⟩ := c'.at_sh (i := i) (d := d) (by
        have := (List.getElem?_eq_some_iff.mp e).1
        rw [List.getElem?_set_self this])
      rw [h] at h1; cases h1
      exact ⟨d, Hi', _, e', c', h2, q⟩
    · exact q.elim
  | op t d => exact q.elim
theorem Out.share {k : D → Ev → Prop} (o : Out G C Hi σ H Γ v r) (q : frW r Γ k) : ∃ d Hi' Γ', Ext Hi Hi' ∧ Rel G C Hi' σ H Γ' ∧ Rep G.K Hi' v d ∧ k d Γ' := by
  obtain ⟨Hi1, e1, c1, h1⟩ := o.hold
  obtain ⟨d, Hi2, Γ2, e2, c2, r2, q2⟩ := h1.share c1 q
  exact ⟨d, Hi2, Γ2, e1.trans e2, c2, r2, q2⟩

variable {K : Fg}
theorem Rdb.int {x : V} {i : Int} (h : Rdb K Hi H x (.int i)) : x = .int i := by
  rcases h with h | ⟨p, _, h⟩
  · cases h; rfl
  · cases h
theorem Rdb.bl {x : V} {b : Bool} (h : Rdb K Hi H x (.bool b)) : x = .bl b := by
  rcases h with h | ⟨p, _, h⟩
  · cases h; rfl
  · cases h
theorem Rdb.str {x : V} {z : Str} (h : Rdb K Hi H x (.str z)) : x = .str z := by
  rcases h with h | ⟨p, _, h⟩
  · cases h; rfl
  · cases h
theorem Rdb.non {x : V} (h : Rdb K Hi H x .none) : x = .non := by
  rcases h with h | ⟨p, _, h⟩
  · cases h; rfl
  · cases h
theorem Rdb.list {x : V} {ds : List D} (e : Ext Hi H) (h : Rdb K Hi H x (.list ds)) : ∃ p xs, x = .ref p ∧ H p = some (.lst xs) ∧ Reps K Hi xs ds := by
  rcases h with h | ⟨p, rfl, h⟩
  · cases h with
    | lst h r => exact ⟨_, _, rfl, e _ _ h, r⟩
  · cases h with
    | lst h r => exact ⟨_, _, rfl, h, r⟩
theorem Rdb.tuple {x : V} {ds : List D} (e : Ext Hi H) (h : Rdb K Hi H x (.tuple ds)) : ∃ p xs, x = .ref p ∧ H p = some (.tup xs) ∧ Reps K Hi xs ds := by
  rcases h with h | ⟨p, _, h⟩
  · cases h with
    | tup h r => exact ⟨_, _, rfl, e _ _ h, r⟩
  · cases h
theorem Rdb.dict {x : V} {ps : List (D × D)} (e : Ext Hi H) (h : Rdb K Hi H x (.dict ps)) : ∃ p kvs, x = .ref p ∧ Rd H p (.dK kvs) ∧ RepKV K Hi kvs ps := by
  rcases h with h | ⟨p, rfl, h⟩
  · cases h with
    | dct h r => exact ⟨_, _, rfl, e.rd h, r⟩
  · cases h with
    | dct h r => exact ⟨_, _, rfl, .inl h, r⟩
theorem Rdb.rep {x : V} {d : D} (e : Ext Hi H) (h : Rdb K Hi H x d) : Rep K H x d := by
  rcases h with h | ⟨p, rfl, h⟩
  · exact h.mono e
  · cases h with
    | lst h r => exact .lst h (r.mono e)
    | dct h r => exact .dct (.inl h) (r.mono e)
end

def SimE (G : Gb) (W : WX) (t : TE) (w : WE) : Prop := ∀ (C : Cf) (Hi : Hp) (σ : St) (H : Hp) (Γ : Ev) (Q : VK) (Qd : R → Ev → Prop) (Xd : XW), Rel G C Hi σ H Γ → w Γ Qd Xd →
  (∀ v r H' Hi' Γ', Ext Hi Hi' → Out G C Hi' σ H' Γ' v r → Qd r Γ' → Q v H') →
  (∀ x c d H' Hi' Γ', Ext Hi Hi' → Rel G C Hi' σ H' Γ' → G.xr x c d Hi' → Xd x Γ' → W c d σ H') → t σ H Q
def SimT (G : Gb) (W : WX) (t : TT) (w : WT) : Prop := ∀ (C : Cf) (Hi : Hp) (σ : St) (H : Hp) (Γ : Ev) (Q : Bool → Hp → Prop) (Qd : Bool → Ev → Prop) (Xd : XW), Rel G C Hi σ H Γ → w Γ Qd Xd →
  (∀ b H' Hi' Γ', Ext Hi Hi' → Rel G C Hi' σ H' Γ' → Qd b Γ' → Q b H') →
  (∀ x c d H' Hi' Γ', Ext Hi Hi' → Rel G C Hi' σ H' Γ' → G.xr x c d Hi' → Xd x Γ' → W c d σ H') → t σ H Q
inductive Holds (G : Gb) (Hi : Hp) (σ : St) : List V → List R → Prop
  | nil : Holds G Hi σ [] []
  | cons {v : V} {vs : List V} {r : R} {rs : List R} : Hold G Hi σ v r → Holds G Hi σ vs rs → Holds G Hi σ (v :: vs) (r :: rs)
def SimA (G : Gb) (W : WX) (t : TA) (w : WA) : Prop := ∀ (C : Cf) (Hi : Hp) (σ : St) (H : Hp) (Γ : Ev) (Q : List V → Hp → Prop) (Qd : List R → Ev → Prop) (Xd : XW), Rel G C Hi σ H Γ → w Γ Qd Xd →
  (∀ vs rs H' Hi' Γ', Ext Hi Hi' → Rel G C Hi' σ H' Γ' → Holds G Hi' σ vs rs → Qd rs Γ' → Q vs H') →
  (∀ x c d H' Hi' Γ', Ext Hi Hi' → Rel G C Hi' σ H' Γ' → G.xr x c d Hi' → Xd x Γ' → W c d σ H') → t σ H Q
def SimS (G : Gb) (W : WX) (t : TS) (w : WS) : Prop := ∀ (C : Cf) (Hi : Hp) (σ : St) (H : Hp) (Γ : Ev) (Dn : Ends) (Dd : WD) (Xd : XW), Rel G C Hi σ H Γ → w Γ Dd Xd →
  (∀ σ' H' Hi' Γ', Ext Hi Hi' → Rel G C Hi' σ' H' Γ' → Dd.nx Γ' → Dn.nx σ' H') →
  (∀ v r σ' H' Hi' Γ', Ext Hi Hi' → Out G C Hi' σ' H' Γ' v r → Dd.rt r Γ' → Dn.rt v H') →
  (∀ σ' H' Hi' Γ', Ext Hi Hi' → Rel G C Hi' σ' H' Γ' → Dd.bk Γ' → Dn.bk σ' H') →
  (∀ σ' H' Hi' Γ', Ext Hi Hi' → Rel G C Hi' σ' H' Γ' → Dd.ct Γ' → Dn.ct σ' H') →
  (∀ x c d σ' H' Hi' Γ', Ext Hi Hi' → Rel G C Hi' σ' H' Γ' → G.xr x c d Hi' → Xd x Γ' → W c d σ' H') → t Dn σ H
end VL

set_option Elab.async false
set_option linter.all false
set_option maxRecDepth 100000
namespace VL
open PySem L2

section
variable {G : Gb} {C : Cf} {Hi Hi' H H' : Hp} {σ : St} {Γ : Ev} {fp : Nat → List Addr} {W : WX}
theorem Core.grow (c : Core G C Hi σ H Γ fp) (k : Ext H H') (e : Ext Hi Hi') (im : Ext Hi' H') (ov : ∀ a o, Hi' a = some o → Hi a = some o ∨ H a = none) : Core G C Hi' σ H' Γ fp where
  frame := fun a o h n => k a o (c.frame a o h n)
  live := fun a h => by
    cases q : H a with
    | none => exact absurd q (c.live a h)
    | some o => rw [k a o q]; simp
  imm := im
  base := c.base.trans e
  ov := fun a o h => by
    rcases ov a o h with q | q
    · exact c.ov a o q
    · exact .inr (c.fresh q).2
  len := c.len
  sl := fun j s h => by
    obtain ⟨x, h1, h2⟩ := c.sl j s h
    refine ⟨x, h1, h2.to e fun a ha => ?_⟩
    obtain ⟨o, ho⟩ := h2.trk a ha
    rw [ho]; exact k a o ho
  dj := c.dj
  av := fun i a hi ha => by
    cases q : Hi' a with
    | none => rfl
    | some o =>
      rcases ov a o q with z | z
      · rw [c.av i a hi ha] at z; cases z
      · obtain ⟨u, hu⟩ := c.trk hi ha
        rw [z] at hu; cases hu
theorem Rel.grow (c : Rel G C Hi σ H Γ) (k : Ext H H') (e : Ext Hi Hi') (im : Ext Hi' H') (ov : ∀ a o, Hi' a = some o → Hi a = some o ∨ H a = none) : Rel G C Hi' σ H' Γ :=
  let ⟨_, c⟩ := c
  ⟨_, c.grow k e im ov⟩
theorem Rel.laid {p : Addr} {o : HO} (c : Rel G C Hi σ H Γ) (hp : H p = none) : Ext Hi (upd Hi p o) ∧ Rel G C (upd Hi p o) σ (upd H p o) Γ := by
  have hn := c.imm.none_of hp
  refine ⟨Ext.new hn, c.grow (Ext.new hp) (Ext.new hn) (fun a u h => ?_) fun a u h => ?_⟩
  · by_cases e : a = p
    · rw [e, upd_same] at h; rw [e, upd_same]; exact h
    · rw [upd_ne e] at h; rw [upd_ne e]; exact c.imm a u h
  · by_cases e : a = p
    · rw [e]; exact .inr hp
    · rw [upd_ne e] at h; exact .inl h
theorem Out.new {p : Addr} {o : HO} {d : D} (c : Rel G C Hi σ H Γ) (hp : H p = none) (ow : Own G.K Hi (upd H p o) p d) : Out G C Hi σ (upd H p o) Γ (.ref p) (.ow d) := ⟨c.len, c.alloc hp ow⟩
theorem Out.newL {p : Addr} {xs : List V} {ds : List D} (c : Rel G C Hi σ H Γ) (hp : H p = none) (r : Reps G.K Hi xs ds) : Out G C Hi σ (upd H p (.lst xs)) Γ (.ref p) (.ow (.list ds)) := Out.new c hp (.lst upd_same r)
theorem Out.newT {p : Addr} {xs : List V} {ds : List D} (c : Rel G C Hi σ H Γ) (hp : H p = none) (r : Reps G.K Hi xs ds) :
    Ext Hi (upd Hi p (.tup xs)) ∧ Out G C (upd Hi p (.tup xs)) σ (upd H p (.tup xs)) Γ (.ref p) (.sh (.tuple ds)) := by
  obtain ⟨e, c'⟩ := c.laid (o := .tup xs) hp
  exact ⟨e, c', .tup upd_same (r.mono e)⟩

def wVar (i : Nat) : WE := fun Γ Q _ => match Γ[i]? with
  | some (.sh d) => Q (.sh d) Γ
  | some (.ow _) => Q (.vr i) Γ
  | some (.io _) => Q (.vr i) Γ
  | some (.op _ _) => Q (.vr i) Γ
  | _ => False
theorem sim_var (i : Nat) : SimE G W (tVar i) (wVar i) := by
  intro C Hi σ H Γ Q Qd Xd c hw hQ hX
  unfold wVar at hw
  split at hw
  · rename_i d e
    obtain ⟨v, h1, h2⟩ := c.at_sh e
    exact ⟨v, h1, hQ v (.sh d) H Hi Γ (Ext.refl _) ⟨c, h2⟩ hw⟩
  · rename_i d e
    obtain ⟨p, h1, _⟩ := c.at_ow e
    exact ⟨_, h1, hQ _ (.vr i) H Hi Γ (Ext.refl _) ⟨c, h1⟩ hw⟩
  · rename_i d e
    obtain ⟨p, h1, _⟩ := c.at_io e
    exact ⟨_, h1, hQ _ (.vr i) H Hi Γ (Ext.refl _) ⟨c, h1⟩ hw⟩
  · rename_i t d e
    obtain ⟨fp, c0⟩ := id c
    obtain ⟨x, hx, p, e1, _⟩ := c0.sl i _ e
    rw [e1] at hx
    exact ⟨_, hx, hQ _ (.vr i) H Hi Γ (Ext.refl _) ⟨c, hx⟩ hw⟩
  · exact hw.elim
def wC (d : D) : WE := fun Γ Q _ => Q (.sh d) Γ
theorem sim_c {v : V} {d : D} (h : ∀ Hi, Rep G.K Hi v d) : SimE G W (tC v) (wC d) := fun C Hi σ H Γ Q Qd Xd c hw hQ hX => hQ v (.sh d) H Hi Γ (Ext.refl _) ⟨c, h Hi⟩ hw

abbrev Op2 := D → D → (R → Prop) → Prop
abbrev Op1 := D → (R → Prop) → Prop
def Sem2 (G : Gb) (r : R2) (o : Op2) : Prop := ∀ {C : Cf} {Hi : Hp} {σ : St} {H : Hp} {Γ : Ev} {x y : V} {a b : D} {k : R → Prop} {Q : VK}, Rel G C Hi σ H Γ → Rdb G.K Hi H x a → Rdb G.K Hi H y b → o a b k →
  (∀ v r H' Hi', Ext Hi Hi' → Out G C Hi' σ H' Γ v r → k r → Q v H') → r x y H Q
def Sem1 (G : Gb) (r : V → Hp → VK → Prop) (o : Op1) : Prop := ∀ {C : Cf} {Hi : Hp} {σ : St} {H : Hp} {Γ : Ev} {x : V} {a : D} {k : R → Prop} {Q : VK}, Rel G C Hi σ H Γ → Rdb G.K Hi H x a → o a k →
  (∀ v r H' Hi', Ext Hi Hi' → Out G C Hi' σ H' Γ v r → k r → Q v H') → r x H Q
def wOp (o : Op2) (wa wb : WE) : WE := fun Γ Q X => wa Γ (fun ra Γ1 => wb Γ1 (fun rb Γ2 => rdW ra Γ2 fun a => rdW rb Γ2 fun b => o a b fun r => Q r Γ2) X) X
theorem sim_op {r : R2} {o : Op2} {ta tb : TE} {wa wb : WE} (h : Sem2 G r o) (ha : SimE G W ta wa) (hb : SimE G W tb wb) : SimE G W (tOp r ta tb) (wOp o wa wb) := by
  intro C Hi σ H Γ Q Qd Xd c hw hQ hX
  refine ha C Hi σ H Γ _ _ Xd c hw (fun v1 r1 H1 Hi1 Γ1 e1 o1 q1 => ?_) hX
  obtain ⟨Hi2, e2, c2, h2⟩ := o1.hold
  refine hb C Hi2 σ H1 Γ1 _ _ Xd c2 q1 (fun v3 r3 H3 Hi3 Γ3 e3 o3 q3 => ?_) fun x c d H' Hi' Γ' e' => hX x c d H' Hi' Γ' ((e1.trans e2).trans e')
  obtain ⟨Hi4, e4, c4, h4⟩ := o3.hold
  obtain ⟨d1, b1, q4⟩ := (h2.mono (e3.trans e4)).read c4 q3
  obtain ⟨d2, b2, q5⟩ := h4.read c4 q4
  exact h c4 b1 b2 q5 fun v r H' Hi' e o q => hQ v r H' Hi' Γ3 ((((e1.trans e2).trans e3).trans e4).trans e) o q
def wUn (o : Op1) (wa : WE) : WE := fun Γ Q X => wa Γ (fun ra Γ1 => rdW ra Γ1 fun a => o a fun r => Q r Γ1) X
theorem sim_un {r : V → Hp → VK → Prop} {o : Op1} {ta : TE} {wa : WE} (h : Sem1 G r o) (ha : SimE G W ta wa) : SimE G W (tUn r ta) (wUn o wa) := by
  intro C Hi σ H Γ Q Qd Xd c hw hQ hX
  refine ha C Hi σ H Γ _ _ Xd c hw (fun v1 r1 H1 Hi1 Γ1 e1 o1 q1 => ?_) hX
  obtain ⟨Hi2, e2, c2, h2⟩ := o1.hold
  obtain ⟨d1, b1, q4⟩ := h2.read c2 q1
  exact h c2 b1 q4 fun v r H' Hi' e o q => hQ v r H' Hi' Γ1 ((e1.trans e2).trans e) o q
theorem out_int (c : Rel G C Hi σ H Γ) (i : Int) : Out G C Hi σ H Γ (.int i) (.sh (.int i)) := ⟨c, .int i⟩
theorem out_bl (c : Rel G C Hi σ H Γ) (i : Bool) : Out G C Hi σ H Γ (.bl i) (.sh (.bool i)) := ⟨c, .bl i⟩
theorem out_str (c : Rel G C Hi σ H Γ) (i : Str) : Out G C Hi σ H Γ (.str i) (.sh (.str i)) := ⟨c, .str i⟩
def isI (d : D) (k : Int → Prop) : Prop := match d with
  | .int i => k i
  | _ => False
def isB (d : D) (k : Bool → Prop) : Prop := match d with
  | .bool b => k b
  | _ => False
def isS (d : D) (k : Str → Prop) : Prop := match d with
  | .str s => k s
  | _ => False
def isL (d : D) (k : List D → Prop) : Prop := match d with
  | .list s => k s
  | _ => False
def oII (P : Int → Int → Prop) (g : Int → Int → Int) : Op2 := fun a b k => isI a fun i => isI b fun j => P i j ∧ k (.sh (.int (g i j)))
def oIB (g : Int → Int → Bool) : Op2 := fun a b k => isI a fun i => isI b fun j => k (.sh (.bool (g i j)))
theorem isI_inv {d : D} {k : Int → Prop} (h : isI d k) : ∃ i, d = .int i ∧ k i := by
  unfold isI at h; split at h
  · exact ⟨_, rfl, h⟩
  · exact h.elim
theorem isB_inv {d : D} {k : Bool → Prop} (h : isB d k) : ∃ i, d = .bool i ∧ k i := by
  unfold isB at h; split at h
  · exact ⟨_, rfl, h⟩
  · exact h.elim
theorem isS_inv {d : D} {k : Str → Prop} (h : isS d k) : ∃ i, d = .str i ∧ k i := by
  unfold isS at h; split at h
  · exact ⟨_, rfl, h⟩
  · exact h.elim
theorem isL_inv {d : D} {k : List D → Prop} (h : isL d k) : ∃ i, d = .list i ∧ k i := by
  unfold isL at h; split at h
  · exact ⟨_, rfl, h⟩
  · exact h.elim
theorem sem_II {P P' : Int → Int → Prop} {g : Int → Int → Int} {g' : Int → Int → V} (hp : ∀ i j, P i j → P' i j) (hg : ∀ i j, P i j → g' i j = .int (g i j)) : Sem2 G (rI P' g') (oII P g) := by
  intro C Hi σ H Γ x y a b k Q c ha hb h q
  obtain ⟨i, rfl, h1⟩ := isI_inv h
  obtain ⟨j, rfl, hP, h⟩ := isI_inv h1
  refine ⟨i, j, ha.int, hb.int, hp i j hP, ?_⟩
  rw [hg i j hP]
  exact q _ _ H Hi (Ext.refl _) (out_int c _) h
theorem sem_II0 {g : Int → Int → Int} : Sem2 G (rI0 fun i j => .int (g i j)) (oII (fun _ _ => True) g) := by
  intro C Hi σ H Γ x y a b k Q c ha hb h q
  obtain ⟨i, rfl, h1⟩ := isI_inv h
  obtain ⟨j, rfl, hP, h⟩ := isI_inv h1
  exact ⟨i, j, ha.int, hb.int, q _ _ H Hi (Ext.refl _) (out_int c _) h⟩
theorem sem_IB {g : Int → Int → Bool} : Sem2 G (rI0 fun i j => .bl (g i j)) (oIB g) := by
  intro C Hi σ H Γ x y a b k Q c ha hb h q
  obtain ⟨i, rfl, h1⟩ := isI_inv h
  obtain ⟨j, rfl, h⟩ := isI_inv h1
  exact ⟨i, j, ha.int, hb.int, q _ _ H Hi (Ext.refl _) (out_bl c _) h⟩

mutual
theorem Rep.dp {K : Fg} {H : Hp} : ∀ {v : V} {d : D}, Rep K H v d → d.canLay0 = true → Dp K H v d
  | _, _, .non, _ => .non
  | _, _, .bl b, _ => .bl b
  | _, _, .int i, _ => .int i
  | _, _, .str x, _ => .str x
  | _, _, .lst h r, e => .lst (.inl (.inl h)) (Reps.dp r (by simpa [PyData.canLay0] using e))
  | _, _, .tup h r, e => .tup (.inl (.inl h)) (Reps.dp r (by simpa [PyData.canLay0] using e))
  | _, _, .dct h r, e => by simp [PyData.canLay0] at e
theorem Reps.dp {K : Fg} {H : Hp} : ∀ {vs : List V} {ds : List D}, Reps K H vs ds → PyData.canLayAll0 ds = true → DpAll K H vs ds
  | _, _, .nil, _ => .nil
  | _, d :: ds, .cons h r, e => by
    have e' : PyData.canLay0 d = true ∧ PyData.canLayAll0 ds = true := by simpa [PyData.canLayAll0] using e
    exact .cons (Rep.dp h e'.1) (Reps.dp r e'.2)
end
theorem Rdb.dp {K : Fg} {x : V} {d : D} (e : Ext Hi H) (h : Rdb K Hi H x d) (s : SeqAt.shaped d = true) : Dp K H x d := (h.rep e).dp (SeqAt.canLay_of_shaped s)
def oEq : Op2 := fun a b k => SeqAt.shaped a = true ∧ SeqAt.shaped b = true ∧ k (.sh (.bool (PyData.eqv a b)))
def oNe : Op2 := fun a b k => SeqAt.shaped a = true ∧ SeqAt.shaped b = true ∧ k (.sh (.bool (!PyData.eqv a b)))
theorem sem_eq : Sem2 G (rEqD G.K) oEq := by
  intro C Hi σ H Γ x y a b k Q c ha hb ⟨s1, s2, h⟩ q
  exact ⟨a, b, ha.dp c.imm s1, hb.dp c.imm s2, s1, s2, q _ _ H Hi (Ext.refl _) (out_bl c _) h⟩
theorem sem_ne : Sem2 G (rNeD G.K) oNe := by
  intro C Hi σ H Γ x y a b k Q c ha hb ⟨s1, s2, h⟩ q
  exact ⟨a, b, ha.dp c.imm s1, hb.dp c.imm s2, s1, s2, q _ _ H Hi (Ext.refl _) (out_bl c _) h⟩
def isNone : D → Bool
  | .none => true
  | _ => false
theorem rdb_none {K : Fg} {x : V} {d : D} (h : Rdb K Hi H x d) : decide (x = .non) = isNone d := by
  rcases h with h | ⟨p, rfl, h⟩
  · cases h <;> first | rfl | exact decide_eq_false (fun z => nomatch z)
  · cases h <;> exact decide_eq_false (fun z => nomatch z)
def isN (d : D) (k : Prop) : Prop := match d with
  | .none => k
  | _ => False
theorem isN_inv {d : D} {k : Prop} (h : isN d k) : d = .none ∧ k := by
  unfold isN at h; split at h
  · exact ⟨rfl, h⟩
  · exact h.elim
def oIsN : Op2 := fun a b k => isN b (k (.sh (.bool (isNone a))))
def oNotN : Op2 := fun a b k => isN b (k (.sh (.bool (!isNone a))))
theorem sem_isN : Sem2 G (fun x y H Q => y = .non ∧ Q (.bl (decide (x = .non))) H) oIsN := by
  intro C Hi σ H Γ x y a b k Q c ha hb h q
  obtain ⟨rfl, h⟩ := isN_inv h
  refine ⟨hb.non, ?_⟩
  rw [rdb_none ha]
  exact q _ _ H Hi (Ext.refl _) (out_bl c _) h
def wT (w : WE) : WT := fun Γ Q X => w Γ (fun r Γ1 => rdW r Γ1 fun d => isB d fun b => Q b Γ1) X
theorem sim_tB {t : TE} {w : WE} (h : SimE G W t w) : SimT G W (tB t) (wT w) := by
  intro C Hi σ H Γ Q Qd Xd c hw hQ hX
  refine h C Hi σ H Γ _ _ Xd c hw (fun v1 r1 H1 Hi1 Γ1 e1 o1 q1 => ?_) hX
  obtain ⟨Hi2, e2, c2, h2⟩ := o1.hold
  obtain ⟨d, b1, q⟩ := h2.read c2 q1
  obtain ⟨b, rfl, q⟩ := isB_inv q
  exact ⟨b, b1.bl, hQ b H1 Hi2 Γ1 (e1.trans e2) c2 q⟩
theorem sim_tTest {t : TE} {w : WE} (h : SimE G W t w) : SimT G W (tTest t) (wT w) := sim_tB h
def wAnd (a b : WT) : WT := fun Γ Q X => a Γ (fun c Γ1 => if c = true then b Γ1 Q X else Q false Γ1) X
def wOr (a b : WT) : WT := fun Γ Q X => a Γ (fun c Γ1 => if c = true then Q true Γ1 else b Γ1 Q X) X
def wNot (a : WT) : WT := fun Γ Q X => a Γ (fun c Γ1 => Q (!c) Γ1) X
theorem sim_and {t u : TT} {a b : WT} (ha : SimT G W t a) (hb : SimT G W u b) : SimT G W (tAnd t u) (wAnd a b) := by
  intro C Hi σ H Γ Q Qd Xd c hw hQ hX
  refine ha C Hi σ H Γ _ _ Xd c hw (fun b1 H1 Hi1 Γ1 e1 c1 q1 => ?_) hX
  cases b1 with
  | true => exact hb C Hi1 σ H1 Γ1 Q Qd Xd c1 q1 (fun b H' Hi' Γ' e => hQ b H' Hi' Γ' (e1.trans e)) fun x c d H' Hi' Γ' e => hX x c d H' Hi' Γ' (e1.trans e)
  | false => exact hQ false H1 Hi1 Γ1 e1 c1 q1
theorem sim_or {t u : TT} {a b : WT} (ha : SimT G W t a) (hb : SimT G W u b) : SimT G W (tOr t u) (wOr a b) := by
  intro C Hi σ H Γ Q Qd Xd c hw hQ hX
  refine ha C Hi σ H Γ _ _ Xd c hw (fun b1 H1 Hi1 Γ1 e1 c1 q1 => ?_) hX
  cases b1 with
  | false => exact hb C Hi1 σ H1 Γ1 Q Qd Xd c1 q1 (fun b H' Hi' Γ' e => hQ b H' Hi' Γ' (e1.trans e)) fun x c d H' Hi' Γ' e => hX x c d H' Hi' Γ' (e1.trans e)
  | true => exact hQ true H1 Hi1 Γ1 e1 c1 q1
theorem sim_not {t : TT} {a : WT} (ha : SimT G W t a) : SimT G W (tNot t) (wNot a) := fun C Hi σ H Γ Q Qd Xd c hw hQ hX =>
  ha C Hi σ H Γ _ _ Xd c hw (fun b H1 Hi1 Γ1 e1 c1 q1 => hQ (!b) H1 Hi1 Γ1 e1 c1 q1) hX
def wAndV (wa wb : WE) : WE := fun Γ Q X => wa Γ (fun r Γ1 => rdW r Γ1 fun d => isB d fun b => if b = true then wb Γ1 Q X else Q (.sh (.bool false)) Γ1) X
def wOrV (wa wb : WE) : WE := fun Γ Q X => wa Γ (fun r Γ1 => rdW r Γ1 fun d => isB d fun b => if b = true then Q (.sh (.bool true)) Γ1 else wb Γ1 Q X) X
def wNotV (wa : WE) : WE := fun Γ Q X => wa Γ (fun r Γ1 => rdW r Γ1 fun d => isB d fun b => Q (.sh (.bool (!b))) Γ1) X
theorem sim_andV {ta tb : TE} {wa wb : WE} (ha : SimE G W ta wa) (hb : SimE G W tb wb) : SimE G W (tAndV ta tb) (wAndV wa wb) := by
  intro C Hi σ H Γ Q Qd Xd c hw hQ hX
  refine ha C Hi σ H Γ _ _ Xd c hw (fun v1 r1 H1 Hi1 Γ1 e1 o1 q1 => ?_) hX
  obtain ⟨Hi2, e2, c2, h2⟩ := o1.hold
  obtain ⟨d, b1, q⟩ := h2.read c2 q1
  obtain ⟨b, rfl, q⟩ := isB_inv q
  refine ⟨b, b1.bl, ?_⟩
  cases b with
  | true => exact hb C Hi2 σ H1 Γ1 Q Qd Xd c2 q (fun v r H' Hi' Γ' e => hQ v r H' Hi' Γ' ((e1.trans e2).trans e)) fun x c d H' Hi' Γ' e => hX x c d H' Hi' Γ' ((e1.trans e2).trans e)
  | false => exact hQ _ _ H1 Hi2 Γ1 (e1.trans e2) (out_bl c2 _) q
theorem sim_orV {ta tb : TE} {wa wb : WE} (ha : SimE G W ta wa) (hb : SimE G W tb wb) : SimE G W (tOrV ta tb) (wOrV wa wb) := by
  intro C Hi σ H Γ Q Qd Xd c hw hQ hX
  refine ha C Hi σ H Γ _ _ Xd c hw (fun v1 r1 H1 Hi1 Γ1 e1 o1 q1 => ?_) hX
  obtain ⟨Hi2, e2, c2, h2⟩ := o1.hold
  obtain ⟨d, b1, q⟩ := h2.read c2 q1
  obtain ⟨b, rfl, q⟩ := isB_inv q
  refine ⟨b, b1.bl, ?_⟩
  cases b with
  | false => exact hb C Hi2 σ H1 Γ1 Q Qd Xd c2 q (fun v r H' Hi' Γ' e => hQ v r H' Hi' Γ' ((e1.trans e2).trans e)) fun x c d H' Hi' Γ' e => hX x c d H' Hi' Γ' ((e1.trans e2).trans e)
  | true => exact hQ _ _ H1 Hi2 Γ1 (e1.trans e2) (out_bl c2 _) q
theorem sim_notV {ta : TE} {wa : WE} (ha : SimE G W ta wa) : SimE G W (tNotV ta) (wNotV wa) := by
  intro C Hi σ H Γ Q Qd Xd c hw hQ hX
  refine ha C Hi σ H Γ _ _ Xd c hw (fun v1 r1 H1 Hi1 Γ1 e1 o1 q1 => ?_) hX
  obtain ⟨Hi2, e2, c2, h2⟩ := o1.hold
  obtain ⟨d, b1, q⟩ := h2.read c2 q1
  obtain ⟨b, rfl, q⟩ := isB_inv q
  exact ⟨b, b1.bl, hQ _ _ H1 Hi2 Γ1 (e1.trans e2) (out_bl c2 _) q⟩
def wIf (c : WT) (wa wb : WE) : WE := fun Γ Q X => c Γ (fun b Γ1 => if b = true then wa Γ1 Q X else wb Γ1 Q X) X
theorem sim_if {t : TT} {u : WT} {ta tb : TE} {wa wb : WE} (hc : SimT G W t u) (ha : SimE G W ta wa) (hb : SimE G W tb wb) : SimE G W (tIf t ta tb) (wIf u wa wb) := by
  intro C Hi σ H Γ Q Qd Xd c hw hQ hX
  refine hc C Hi σ H Γ _ _ Xd c hw (fun b1 H1 Hi1 Γ1 e1 c1 q1 => ?_) hX
  cases b1 with
  | true => exact ha C Hi1 σ H1 Γ1 Q Qd Xd c1 q1 (fun v r H' Hi' Γ' e => hQ v r H' Hi' Γ' (e1.trans e)) fun x c d H' Hi' Γ' e => hX x c d H' Hi' Γ' (e1.trans e)
  | false => exact hb C Hi1 σ H1 Γ1 Q Qd Xd c1 q1 (fun v r H' Hi' Γ' e => hQ v r H' Hi' Γ' (e1.trans e)) fun x c d H' Hi' Γ' e => hX x c d H' Hi' Γ' (e1.trans e)
def wChain (o o' : Op2) (wa wb wc : WE) : WE := fun Γ Q X => wa Γ (fun ra Γ1 => wb Γ1 (fun rb Γ2 => rdW ra Γ2 fun a => rdW rb Γ2 fun b => o a b fun r => rdW r Γ2 fun d => isB d fun z =>
  if z = true then wc Γ2 (fun rc Γ3 => rdW rb Γ3 fun b' => rdW rc Γ3 fun c' => o' b' c' fun r => Q r Γ3) X else Q (.sh (.bool false)) Γ2) X) X
theorem sim_chain {r r' : R2} {o o' : Op2} {ta tb tc : TE} {wa wb wc : WE} (h : Sem2 G r o) (h' : Sem2 G r' o') (ha : SimE G W ta wa) (hb : SimE G W tb wb) (hc : SimE G W tc wc) : SimE G W (tChain r r' ta tb tc) (wChain o o' wa wb wc) := by
  intro C Hi σ H Γ Q Qd Xd c hw hQ hX
  refine ha C Hi σ H Γ _ _ Xd c hw (fun v1 r1 H1 Hi1 Γ1 e1 o1 q1 => ?_) hX
  obtain ⟨Hi2, e2, c2, h2⟩ := o1.hold
  have f2 := e1.trans e2
  refine hb C Hi2 σ H1 Γ1 _ _ Xd c2 q1 (fun v3 r3 H3 Hi3 Γ3 e3 o3 q3 => ?_) fun x c d H' Hi' Γ' e' => hX x c d H' Hi' Γ' (f2.trans e')
  obtain ⟨Hi4, e4, c4, h4⟩ := o3.hold
  have f4 := (f2.trans e3).trans e4
  obtain ⟨d1, b1, q4⟩ := (h2.mono (e3.trans e4)).read c4 q3
  obtain ⟨d2, b2, q5⟩ := h4.read c4 q4
  refine h c4 b1 b2 q5 fun v r H5 Hi5 e5 o5 q6 => ?_
  obtain ⟨Hi6, e6, c6, h6⟩ := o5.hold
  obtain ⟨d3, b3, q7⟩ := h6.read c6 q6
  obtain ⟨z, rfl, q8⟩ := isB_inv q7
  have f6 := (f4.trans e5).trans e6
  refine ⟨z, b3.bl, ?_⟩
  cases z with
  | false => exact hQ _ _ H5 Hi6 Γ3 f6 (out_bl c6 _) q8
  | true =>
    refine hc C Hi6 σ H5 Γ3 _ _ Xd c6 q8 (fun v7 r7 H7 Hi7 Γ7 e7 o7 q9 => ?_) fun x c d H' Hi' Γ' e' => hX x c d H' Hi' Γ' (f6.trans e')
    obtain ⟨Hi8, e8, c8, h8⟩ := o7.hold
    obtain ⟨d4, b4, q10⟩ := (h4.mono (((e5.trans e6).trans e7).trans e8)).read c8 q9
    obtain ⟨d5, b5, q11⟩ := h8.read c8 q10
    exact h' c8 b4 b5 q11 fun v r H' Hi' e o q => hQ v r H' Hi' Γ7 (((f6.trans e7).trans e8).trans e) o q

def wNil : WA := fun Γ Q _ => Q [] Γ
def wCons (wa : WE) (wr : WA) : WA := fun Γ Q X => wa Γ (fun r Γ1 => wr Γ1 (fun rs Γ2 => Q (r :: rs) Γ2) X) X
theorem sim_nil : SimA G W tNil wNil := fun C Hi σ H Γ Q Qd Xd c hw hQ hX => hQ [] [] H Hi Γ (Ext.refl _) c .nil hw
theorem sim_cons {te : TE} {tr : TA} {we : WE} {wr : WA} (ha : SimE G W te we) (hr : SimA G W tr wr) : SimA G W (tCons te tr) (wCons we wr) := by
  intro C Hi σ H Γ Q Qd Xd c hw hQ hX
  refine ha C Hi σ H Γ _ _ Xd c hw (fun v1 r1 H1 Hi1 Γ1 e1 o1 q1 => ?_) hX
  obtain ⟨Hi2, e2, c2, h2⟩ := o1.hold
  have f2 := e1.trans e2
  refine hr C Hi2 σ H1 Γ1 _ _ Xd c2 q1 (fun vs rs H3 Hi3 Γ3 e3 c3 h3 q3 => ?_) fun x c d H' Hi' Γ' e' => hX x c d H' Hi' Γ' (f2.trans e')
  exact hQ (v1 :: vs) (r1 :: rs) H3 Hi3 Γ3 (f2.trans e3) c3 (.cons (h2.mono e3) h3) q3
def frAll : List R → Ev → (List D → Ev → Prop) → Prop
  | [], Γ, k => k [] Γ
  | r :: rs, Γ, k => frW r Γ fun d Γ1 => frAll rs Γ1 fun ds Γ2 => k (d :: ds) Γ2
theorem Holds.mono {vs : List V} {rs : List R} (h : Holds G Hi σ vs rs) (e : Ext Hi Hi') : Holds G Hi' σ vs rs := by
  induction h with
  | nil => exact .nil
  | cons a r ih => exact .cons (a.mono e) ih
theorem Holds.share {vs : List V} {rs : List R} (h : Holds G Hi σ vs rs) : ∀ {Hi' : Hp} {Γ : Ev} {k : List D → Ev → Prop}, Ext Hi Hi' → Rel G C Hi' σ H Γ → frAll rs Γ k →
    ∃ ds Hi2 Γ', Ext Hi' Hi2 ∧ Rel G C Hi2 σ H Γ' ∧ Reps G.K Hi2 vs ds ∧ k ds Γ' := by
  induction h with
  | nil => intro Hi' Γ k e c q; exact ⟨[], Hi', Γ, Ext.refl _, c, .nil, q⟩
  | cons a r ih =>
    intro Hi' Γ k e c q
    obtain ⟨d, Hi2, Γ2, e2, c2, r2, q2⟩ := (a.mono e).share c q
    obtain ⟨ds, Hi3, Γ3, e3, c3, r3, q3⟩ := ih (e.trans e2) c2 q2
    exact ⟨d :: ds, Hi3, Γ3, e2.trans e3, c3, .cons (r2.mono e3) r3, q3⟩
def rdAll : List R → Ev → (List D → Prop) → Prop
  | [], _, k => k []
  | r :: rs, Γ, k => rdW r Γ fun d => rdAll rs Γ fun ds => k (d :: ds)
inductive Rdbs (K : Fg) (Hi H : Hp) : List V → List D → Prop
  | nil : Rdbs K Hi H [] []
  | cons {v : V} {vs : List V} {d : D} {ds : List D} : Rdb K Hi H v d → Rdbs K Hi H vs ds → Rdbs K Hi H (v :: vs) (d :: ds)
theorem Holds.read {vs : List V} {rs : List R} (h : Holds G Hi σ vs rs) (c : Rel G C Hi σ H Γ) : ∀ {k : List D → Prop}, rdAll rs Γ k → ∃ ds, Rdbs G.K Hi H vs ds ∧ k ds := by
  induction h with
  | nil => intro k q; exact ⟨[], .nil, q⟩
  | cons a r ih =>
    intro k q
    obtain ⟨d, b, q⟩ := a.read c q
    obtain ⟨ds, bs, q⟩ := ih q
    exact ⟨d :: ds, .cons b bs, q⟩
def wTup (wa : WA) : WE := fun Γ Q X => wa Γ (fun rs Γ1 => frAll rs Γ1 fun ds Γ2 => ds.length ≤ 1000 ∧ Q (.sh (.tuple ds)) Γ2) X
def wLst (wa : WA) : WE := fun Γ Q X => wa Γ (fun rs Γ1 => frAll rs Γ1 fun ds Γ2 => ds.length ≤ 1000 ∧ Q (.ow (.list ds)) Γ2) X
theorem le_line {n : Nat} (h : n ≤ 1000) : n ≤ sizeLine := by rw [sizeLine_eq]; omega
theorem sim_tup {ta : TA} {wa : WA} (h : SimA G W ta wa) : SimE G W (tTup ta) (wTup wa) := by
  intro C Hi σ H Γ Q Qd Xd c hw hQ hX
  refine h C Hi σ H Γ _ _ Xd c hw (fun vs rs H1 Hi1 Γ1 e1 c1 h1 q1 => ?_) hX
  obtain ⟨ds, Hi2, Γ2, e2, c2, r2, hl, q2⟩ := h1.share (Ext.refl _) c1 q1
  refine ⟨le_line (by rw [r2.length]; exact hl), fun p hp => ?_⟩
  obtain ⟨e3, o3⟩ := Out.newT c2 hp r2
  exact hQ _ _ _ _ Γ2 ((e1.trans e2).trans e3) o3 q2
theorem sim_lst {ta : TA} {wa : WA} (h : SimA G W ta wa) : SimE G W (tLst ta) (wLst wa) := by
  intro C Hi σ H Γ Q Qd Xd c hw hQ hX
  refine h C Hi σ H Γ _ _ Xd c hw (fun vs rs H1 Hi1 Γ1 e1 c1 h1 q1 => ?_) hX
  obtain ⟨ds, Hi2, Γ2, e2, c2, r2, hl, q2⟩ := h1.share (Ext.refl _) c1 q1
  exact ⟨le_line (by rw [r2.length]; exact hl), fun p hp => hQ _ _ _ _ Γ2 (e1.trans e2) (Out.newL c2 hp r2) q2⟩

abbrev OpN := List D → (R → Prop) → Prop
def SemN (G : Gb) (r : List V → Hp → VK → Prop) (o : OpN) : Prop := ∀ {C : Cf} {Hi : Hp} {σ : St} {H : Hp} {Γ : Ev} {xs : List V} {ds : List D} {k : R → Prop} {Q : VK}, Rel G C Hi σ H Γ → Rdbs G.K Hi H xs ds → o ds k →
  (∀ v r H' Hi', Ext Hi Hi' → Out G C Hi' σ H' Γ v r → k r → Q v H') → r xs H Q
def wCB (o : OpN) (wa : WA) : WE := fun Γ Q X => wa Γ (fun rs Γ1 => rdAll rs Γ1 fun ds => o ds fun r => Q r Γ1) X
theorem sim_cb {r : List V → Hp → VK → Prop} {o : OpN} {ta : TA} {wa : WA} (h : SemN G r o) (ha : SimA G W ta wa) : SimE G W (tCB r ta) (wCB o wa) := by
  intro C Hi σ H Γ Q Qd Xd c hw hQ hX
  refine ha C Hi σ H Γ _ _ Xd c hw (fun vs rs H1 Hi1 Γ1 e1 c1 h1 q1 => ?_) hX
  obtain ⟨ds, bs, q⟩ := h1.read c1 q1
  exact h c1 bs q fun v r H' Hi' e o q => hQ v r H' Hi' Γ1 (e1.trans e) o q
end
end VL

set_option Elab.async false
set_option linter.all false
set_option maxRecDepth 100000
namespace VL
open PySem L2

section
variable {G : Gb} {C : Cf} {Hi Hi' H H' : Hp} {σ σ2 τ : St} {Γ Γ2 Δ : Ev} {fp fp' : Nat → List Addr} {W : WX}
theorem Rel.move {x : Option V} {s : Sl} {i : Nat} (c : Rel G C Hi (σ ++ [x]) H (Γ ++ [s])) (hl : Γ.length = σ.length) (hi : i < Γ.length) : Rel G C Hi (σ.set i x) H (Γ.set i s) := by
  obtain ⟨fp, c⟩ := c
  have c0 : Core G C Hi σ H Γ fp := by
    refine ⟨c.frame, c.live, c.imm, c.base, c.ov, hl, fun j s h => ?_, fun i j a hi hj => c.dj i j a (by simp; omega) (by simp; omega), fun i a hi => c.av i a (by simp; omega)⟩
    have hj : j < Γ.length := (List.getElem?_eq_some_iff.mp h).1
    obtain ⟨x, h1, h2⟩ := c.sl j s (by rw [List.getElem?_append_left hj]; exact h)
    exact ⟨x, by rw [List.getElem?_append_left (by omega)] at h1; exact h1, h2⟩
  obtain ⟨y, hy, ok⟩ := c.sl Γ.length s (by simp)
  have ey : y = x := by
    rw [hl] at hy
    simpa using hy.symm
  subst ey
  exact ⟨_, c0.put hi ok fun a ha => ⟨c.av Γ.length a (by simp) ha, fun j hj hne hm => by
    have := c.dj j Γ.length a (by simp; omega) (by simp) hm ha
    omega⟩⟩
theorem Rel.push_sh {v : V} {d : D} (c : Rel G C Hi σ H Γ) (r : Rep G.K Hi v d) : Rel G C Hi (σ ++ [some v]) H (Γ ++ [.sh d]) :=
  let ⟨_, c⟩ := c
  ⟨_, c.push (l := []) (Ext.refl _) ⟨rfl, v, rfl, r⟩ fun a ha => nomatch ha⟩

def InFp (fp : Nat → List Addr) (n : Nat) (a : Addr) : Prop := ∃ i, i < n ∧ a ∈ fp i
open Classical in
noncomputable def Cf.aside (C : Cf) (Hi H : Hp) (fp : Nat → List Addr) (n : Nat) (lv : ∀ a, C.H0 a ≠ none → H a ≠ none) : Cf where
  H0 := fun a => if InFp fp n a then C.H0 a else H a
  I0 := Hi
  io := C.io
  iot := fun a h => by
    split
    · exact C.iot a h
    · exact lv a (C.iot a h)
  pa := C.pa
open Classical in
theorem Core.aside (c : Core G C Hi (σ ++ τ) H (Γ ++ Δ) fp) (hl : Γ.length = σ.length) : Core G (C.aside Hi H fp Γ.length c.live) Hi σ H Γ fp where
  frame := fun a o h n => by
    have h : (if InFp fp Γ.length a then C.H0 a else H a) = some o := h
    split at h
    · exact c.frame a o h n
    · exact h
  live := fun a h => by
    have h : (if InFp fp Γ.length a then C.H0 a else H a) ≠ none := h
    split at h
    · exact c.live a h
    · exact h
  imm := c.imm
  base := Ext.refl _
  ov := fun a o h => .inl h
  len := hl
  sl := fun j s h => by
    have hj : j < Γ.length := (List.getElem?_eq_some_iff.mp h).1
    obtain ⟨x, h1, h2⟩ := c.sl j s (by rw [List.getElem?_append_left hj]; exact h)
    refine ⟨x, by rw [List.getElem?_append_left (by omega)] at h1; exact h1, ?_⟩
    have hin : ∀ a ∈ fp j, (C.aside Hi H fp Γ.length c.live).H0 a = C.H0 a := fun a ha => if_pos ⟨j, hj, ha⟩
    cases s with
    | no => exact h2
    | sh d => exact h2
    | ow d =>
      obtain ⟨p, e0, e1, e2, e3⟩ := h2
      exact ⟨p, e0, e1, e2, by rw [hin p (by rw [e0]; simp)]; exact e3⟩
    | io d => exact h2
    | op t d =>
      obtain ⟨p, e1, e2, e3, e4⟩ := h2
      exact ⟨p, e1, e2, fun a ha => by rw [hin a ha]; exact e3 a ha, e4⟩
  dj := fun i j a hi hj => c.dj i j a (by simp; omega) (by simp; omega)
  av := fun i a hi => c.av i a (by simp; omega)
def Plain : Ev → Prop := fun Δ => ∀ s ∈ Δ, (∃ d, s = .sh d) ∨ (∃ d, s = .ow d) ∨ ∃ t d, 10 ≤ t ∧ s = .op t d
open Classical in
theorem Core.back (c : Core G C Hi (σ ++ τ) H (Γ ++ Δ) fp) (hl : Γ.length = σ.length) (pl : Plain Δ) (e : Ext Hi Hi') (n : Core G (C.aside Hi H fp Γ.length c.live) Hi' σ2 H' Γ2 fp') :
    Rel G C Hi' (σ2 ++ τ) H' (Γ2 ++ Δ) := by
  have h0 : ∀ a, (C.aside Hi H fp Γ.length c.live).H0 a = none → C.H0 a = none := fun a h => by
    have h : (if InFp fp Γ.length a then C.H0 a else H a) = none := h
    split at h
    · exact h
    · exact (c.fresh h).2
  -- a cell of the part put aside
  have prot : ∀ j a, j < (Γ ++ Δ).length → Γ.length ≤ j → a ∈ fp j → ∃ o, H a = some o ∧ (C.aside Hi H fp Γ.length c.live).H0 a = some o ∧ ¬ C.io a := fun j a hj hge ha => by
    obtain ⟨o, ho⟩ := c.trk hj ha
    have nin : ¬ InFp fp Γ.length a := fun ⟨i, hi, hm⟩ => by
      have := c.dj i j a (by simp; omega) hj hm ha
      omega
    refine ⟨o, ho, (if_neg nin).trans ho, ?_⟩
    obtain ⟨x, _, ok⟩ := c.sl j _ (List.getElem?_eq_getElem hj)
    have hs : (Γ ++ Δ)[j] ∈ Δ := by
      rw [List.getElem_append_right hge]
      exact List.getElem_mem _
    rcases pl _ hs with ⟨d, e⟩ | ⟨d, e⟩ | ⟨t, d, ht, e⟩
    · rw [e] at ok
      obtain ⟨z, _⟩ := ok
      rw [z] at ha; cases ha
    · rw [e] at ok
      obtain ⟨p, z, _, _, q⟩ := ok
      rw [z] at ha
      have : a = p := by simpa using ha
      subst this
      exact fun hio => C.iot a hio q
    · rw [e] at ok
      obtain ⟨p, _, _, q, _⟩ := ok
      rcases q a ha with q | ⟨q, _⟩
      · exact fun hio => C.iot a hio q
      · omega
  have nl := n.len
  refine ⟨fun j => if j < Γ2.length then fp' j else fp (j - Γ2.length + Γ.length), ?_⟩
  refine ⟨fun a o h hn => ?_, fun a h => ?_, n.imm, c.base.trans e, fun a o h => ?_, ?_, fun j s h => ?_, fun i j a hi hj h1 h2 => ?_, fun i a hi h => ?_⟩
  · refine n.frame a o ?_ hn
    show (if InFp fp Γ.length a then C.H0 a else H a) = some o
    split
    · exact h
    · exact c.frame a o h hn
  · refine n.live a fun q => h (h0 a q)
  · rcases n.ov a o h with q | q
    · exact c.ov a o q
    · exact .inr (h0 a q)
  · have := c.len
    simp at this ⊢
    omega
  · have hjl := (List.getElem?_eq_some_iff.mp h).1
    by_cases hj : j < Γ2.length
    · rw [List.getElem?_append_left hj] at h
      obtain ⟨x, h1, h2⟩ := n.sl j s h
      refine ⟨x, by rw [List.getElem?_append_left (by omega)]; exact h1, ?_⟩
      rw [if_pos hj]
      cases s with
      | no => exact h2
      | sh d => exact h2
      | ow d =>
        obtain ⟨p, e0, e1, e2, e3⟩ := h2
        exact ⟨p, e0, e1, e2, h0 p e3⟩
      | io d => exact h2
      | op t d =>
        obtain ⟨p, e1, e2, e3, e4⟩ := h2
        exact ⟨p, e1, e2, fun a ha => (e3 a ha).imp (h0 a) id, e4⟩
    · rw [List.getElem?_append_right (by omega)] at h
      have hk : (Γ ++ Δ)[j - Γ2.length + Γ.length]? = some s := by
        rw [List.getElem?_append_right (by omega)]
        rw [show j - Γ2.length + Γ.length - Γ.length = j - Γ2.length by omega]
        exact h
      obtain ⟨x, h1, h2⟩ := c.sl _ s hk
      refine ⟨x, ?_, ?_⟩
      · rw [List.getElem?_append_right (by omega)]
        rw [List.getElem?_append_right (by omega)] at h1
        rw [show j - σ2.length = j - Γ2.length + Γ.length - σ.length by omega]
        exact h1
      · rw [if_neg hj]
        have hkl := (List.getElem?_eq_some_iff.mp hk).1
        refine h2.to e fun a ha => ?_
        obtain ⟨o, ho, ho', nio⟩ := prot _ a hkl (by omega) ha
        rw [ho]
        exact n.frame a o ho' nio
  · simp at hi hj
    by_cases ei : i < Γ2.length <;> by_cases ej : j < Γ2.length
    · rw [if_pos ei] at h1; rw [if_pos ej] at h2
      exact n.dj i j a ei ej h1 h2
    · rw [if_pos ei] at h1; rw [if_neg ej] at h2
      obtain ⟨o, ho, ho', nio⟩ := prot _ a (by simp; omega) (by omega) h2
      rcases n.home ei h1 with q | q
      · rw [ho'] at q; cases q
      · exact absurd q nio
    · rw [if_neg ei] at h1; rw [if_pos ej] at h2
      obtain ⟨o, ho, ho', nio⟩ := prot _ a (by simp; omega) (by omega) h1
      rcases n.home ej h2 with q | q
      · rw [ho'] at q; cases q
      · exact absurd q nio
    · rw [if_neg ei] at h1; rw [if_neg ej] at h2
      have := c.dj _ _ a (by simp; omega) (by simp; omega) h1 h2
      omega
  · simp at hi
    by_cases ei : i < Γ2.length
    · rw [if_pos ei] at h; exact n.av i a ei h
    · rw [if_neg ei] at h
      obtain ⟨o, ho, ho', nio⟩ := prot _ a (by simp; omega) (by omega) h
      cases q : Hi' a with
      | none => rfl
      | some u =>
        rcases n.ov a u q with z | z
        · have z : Hi a = some u := z
          rw [c.av _ a (by simp; omega) h] at z; cases z
        · rw [ho'] at z; cases z
end

section
variable {G : Gb} {C : Cf} {Hi Hi' H H' : Hp} {σ : St} {Γ : Ev} {W : WX}
def wNext : WS := fun Γ D _ => D.nx Γ
def wSeq (a b : WS) : WS := fun Γ D X => a Γ ⟨fun Γ1 => b Γ1 D X, D.rt, D.bk, D.ct⟩ X
def wBrk : WS := fun Γ D _ => D.bk Γ
def wCnt : WS := fun Γ D _ => D.ct Γ
def wDrop (w : WE) : WS := fun Γ D X => w Γ (fun _ Γ1 => D.nx Γ1) X
def wRet (w : WE) : WS := fun Γ D X => w Γ (fun r Γ1 => D.rt r Γ1) X
def wRetN : WS := fun Γ D _ => D.rt (.sh .none) Γ
def wIfS (c : WT) (a b : WS) : WS := fun Γ D X => c Γ (fun z Γ1 => if z = true then a Γ1 D X else b Γ1 D X) X
theorem sim_next : SimS G W tNext wNext := fun C Hi σ H Γ Dn Dd Xd c hw h1 _ _ _ _ => h1 σ H Hi Γ (Ext.refl _) c hw
theorem sim_seq {t u : TS} {a b : WS} (ha : SimS G W t a) (hb : SimS G W u b) : SimS G W (tSeq t u) (wSeq a b) := by
  intro C Hi σ H Γ Dn Dd Xd c hw h1 h2 h3 h4 h5
  refine ha C Hi σ H Γ _ _ Xd c hw (fun σ1 H1 Hi1 Γ1 e1 c1 q => ?_) h2 h3 h4 h5
  exact hb C Hi1 σ1 H1 Γ1 Dn Dd Xd c1 q (fun σ' H' Hi' Γ' e => h1 σ' H' Hi' Γ' (e1.trans e)) (fun v r σ' H' Hi' Γ' e => h2 v r σ' H' Hi' Γ' (e1.trans e))
    (fun σ' H' Hi' Γ' e => h3 σ' H' Hi' Γ' (e1.trans e)) (fun σ' H' Hi' Γ' e => h4 σ' H' Hi' Γ' (e1.trans e)) fun x c d σ' H' Hi' Γ' e => h5 x c d σ' H' Hi' Γ' (e1.trans e)
theorem Out.rel {v : V} {r : R} (o : Out G C Hi σ H Γ v r) : Rel G C Hi σ H Γ := by
  cases r with
  | sh d => exact o.1
  | vr i => exact o.1
  | ow d => exact o.2.trunc o.1
  | op t d => exact o.2.trunc o.1
theorem sim_drop {t : TE} {w : WE} (h : SimE G W t w) : SimS G W (tDrop t) (wDrop w) := fun C Hi σ H Γ Dn Dd Xd c hw h1 _ _ _ h5 =>
  h C Hi σ H Γ _ _ Xd c hw (fun v r H1 Hi1 Γ1 e1 o1 q => h1 σ H1 Hi1 Γ1 e1 o1.rel q) fun x c d => h5 x c d σ
theorem sim_ret {t : TE} {w : WE} (h : SimE G W t w) : SimS G W (tRet t) (wRet w) := fun C Hi σ H Γ Dn Dd Xd c hw _ h2 _ _ h5 =>
  h C Hi σ H Γ _ _ Xd c hw (fun v r H1 Hi1 Γ1 e1 o1 q => h2 v r σ H1 Hi1 Γ1 e1 o1 q) fun x c d => h5 x c d σ
theorem sim_ifS {tc : TT} {wc : WT} {t u : TS} {a b : WS} (hc : SimT G W tc wc) (ha : SimS G W t a) (hb : SimS G W u b) : SimS G W (tIfS tc t u) (wIfS wc a b) := by
  intro C Hi σ H Γ Dn Dd Xd c hw h1 h2 h3 h4 h5
  refine hc C Hi σ H Γ _ _ Xd c hw (fun z H1 Hi1 Γ1 e1 c1 q => ?_) fun x c d => h5 x c d σ
  cases z with
  | true =>
    exact ha C Hi1 σ H1 Γ1 Dn Dd Xd c1 q (fun σ' H' Hi' Γ' e => h1 σ' H' Hi' Γ' (e1.trans e)) (fun v r σ' H' Hi' Γ' e => h2 v r σ' H' Hi' Γ' (e1.trans e))
      (fun σ' H' Hi' Γ' e => h3 σ' H' Hi' Γ' (e1.trans e)) (fun σ' H' Hi' Γ' e => h4 σ' H' Hi' Γ' (e1.trans e)) fun x c d σ' H' Hi' Γ' e => h5 x c d σ' H' Hi' Γ' (e1.trans e)
  | false =>
    exact hb C Hi1 σ H1 Γ1 Dn Dd Xd c1 q (fun σ' H' Hi' Γ' e => h1 σ' H' Hi' Γ' (e1.trans e)) (fun v r σ' H' Hi' Γ' e => h2 v r σ' H' Hi' Γ' (e1.trans e))
      (fun σ' H' Hi' Γ' e => h3 σ' H' Hi' Γ' (e1.trans e)) (fun σ' H' Hi' Γ' e => h4 σ' H' Hi' Γ' (e1.trans e)) fun x c d σ' H' Hi' Γ' e => h5 x c d σ' H' Hi' Γ' (e1.trans e)

theorem set_far {α : Type} {l : List α} {i : Nat} {x : α} (h : ¬ i < l.length) : l.set i x = l := List.set_eq_of_length_le (by omega)
theorem Rel.setSh {i : Nat} {v : V} {d : D} (c : Rel G C Hi σ H Γ) (r : Rep G.K Hi v d) : Rel G C Hi (σ.set i (some v)) H (Γ.set i (.sh d)) := by
  by_cases hi : i < Γ.length
  · exact c.put_sh hi r
  · rw [set_far hi, set_far (by rw [← c.len]; exact hi)]; exact c
theorem Rel.setOw {i : Nat} {x : Option V} {s : Sl} (c : Rel G C Hi (σ ++ [x]) H (Γ ++ [s])) (hl : Γ.length = σ.length) : Rel G C Hi (σ.set i x) H (Γ.set i s) := by
  by_cases hi : i < Γ.length
  · exact c.move hl hi
  · rw [set_far hi, set_far (by rw [← hl]; exact hi)]; exact c.trunc hl
def setR (i : Nat) (r : R) (Γ : Ev) (k : Ev → Prop) : Prop := match r with
  | .sh d => k (Γ.set i (.sh d))
  | .ow d => k (Γ.set i (.ow d))
  | .vr j => frW (.vr j) Γ fun d Γ1 => k (Γ1.set i (.sh d))
  | .op t d => 10 ≤ t ∧ k (Γ.set i (.op t d))
def wSet (i : Nat) (w : WE) : WS := fun Γ D X => w Γ (fun r Γ1 => setR i r Γ1 D.nx) X
theorem Out.setR {v : V} {r : R} {i : Nat} {k : Ev → Prop} (o : Out G C Hi σ H Γ v r) (q : setR i r Γ k) : ∃ Hi' Γ', Ext Hi Hi' ∧ Rel G C Hi' (σ.set i (some v)) H Γ' ∧ k Γ' := by
  cases r with
  | sh d => exact ⟨Hi, _, Ext.refl _, o.1.setSh o.2, q⟩
  | ow d => exact ⟨Hi, _, Ext.refl _, o.2.setOw o.1, q⟩
  | vr j =>
    obtain ⟨d, Hi', Γ', e, c, r, q⟩ := o.share (k := fun d Γ1 => k (Γ1.set i (.sh d))) q
    exact ⟨Hi', _, e, c.setSh r, q⟩
  | op t d => exact ⟨Hi, _, Ext.refl _, o.2.setOw o.1, q.2⟩
theorem sim_set {t : TE} {w : WE} (i : Nat) (h : SimE G W t w) : SimS G W (tAsg t (gName i)) (wSet i w) := by
  intro C Hi σ H Γ Dn Dd Xd c hw h1 _ _ _ h5
  refine h C Hi σ H Γ _ _ Xd c hw (fun v r H1 Hi1 Γ1 e1 o1 q => ?_) fun x c d => h5 x c d σ
  obtain ⟨Hi2, Γ2, e2, c2, q2⟩ := o1.setR q
  exact h1 _ H1 Hi2 Γ2 (e1.trans e2) c2 q2

abbrev WG := D → Ev → (Ev → Prop) → Prop
def SimG (G : Gb) (g : TG) (w : WG) : Prop := ∀ (C : Cf) (Hi : Hp) (σ : St) (H : Hp) (Γ : Ev) (v : V) (d : D) (Q : St → Hp → Prop) (Qd : Ev → Prop), Rel G C Hi σ H Γ → Rep G.K Hi v d → w d Γ Qd →
  (∀ σ' Γ', Rel G C Hi σ' H Γ' → Qd Γ' → Q σ' H) → g v σ H Q
abbrev WGs := List D → Ev → (Ev → Prop) → Prop
def SimGs (G : Gb) (g : TGs) (w : WGs) : Prop := ∀ (C : Cf) (Hi : Hp) (σ : St) (H : Hp) (Γ : Ev) (vs : List V) (ds : List D) (Q : St → Hp → Prop) (Qd : Ev → Prop), Rel G C Hi σ H Γ → Reps G.K Hi vs ds → w ds Γ Qd →
  (∀ σ' Γ', Rel G C Hi σ' H Γ' → Qd Γ' → Q σ' H) → g vs σ H Q
def wgName (i : Nat) : WG := fun d Γ k => k (Γ.set i (.sh d))
theorem simg_name (i : Nat) : SimG G (gName i) (wgName i) := fun C Hi σ H Γ v d Q Qd c r hw h => h _ _ (c.setSh r) hw
def wgNil : WGs := fun ds Γ k => match ds with
  | [] => k Γ
  | _ => False
def wgCons (a : WG) (b : WGs) : WGs := fun ds Γ k => match ds with
  | [] => False
  | d :: r => a d Γ fun Γ1 => b r Γ1 k
theorem simg_nil : SimGs G gNil wgNil := by
  intro C Hi σ H Γ vs ds Q Qd c r hw h
  cases r with
  | nil => exact ⟨rfl, h _ _ c hw⟩
  | cons _ _ => exact hw.elim
theorem simg_cons {g : TG} {a : WG} {gs : TGs} {b : WGs} (ha : SimG G g a) (hb : SimGs G gs b) : SimGs G (gCons g gs) (wgCons a b) := by
  intro C Hi σ H Γ vs ds Q Qd c r hw h
  cases r with
  | nil => exact hw.elim
  | cons r1 rr => exact ⟨_, _, rfl, ha C Hi σ H Γ _ _ _ _ c r1 hw fun σ' Γ' c' q => hb C Hi σ' H Γ' _ _ _ _ c' rr q h⟩
def wgTup (n : Nat) (b : WGs) : WG := fun d Γ k => match d with
  | .tuple ds => ds.length = n ∧ b ds Γ k
  | _ => False
theorem simg_tup {n : Nat} {gs : TGs} {b : WGs} (hb : SimGs G gs b) : SimG G (gTup G.K n gs) (wgTup n b) := by
  intro C Hi σ H Γ v d Q Qd c r hw h
  cases r with
  | tup s r =>
    obtain ⟨hl, hw⟩ := hw
    exact ⟨_, _, rfl, SqT.of (c.imm _ _ s), by rw [r.length]; exact hl, hb C Hi σ H Γ _ _ _ _ c r hw h⟩
  | _ => exact hw.elim
def wAsg (w : WE) (g : WG) : WS := fun Γ D X => w Γ (fun r Γ1 => frW r Γ1 fun d Γ2 => g d Γ2 D.nx) X
def wAug (i : Nat) (o : Op2) (w : WE) : WS := fun Γ D X => match Γ[i]? with
  | some (.sh a) => w Γ (fun r Γ1 => rdW r Γ1 fun b => o a b fun r2 => setR i r2 Γ1 D.nx) X
  | _ => False
structure Items (K : Fg) (Hi : Hp) (J : It) (ds : List D) : Prop where
  stop : ∀ Hi' H i, Ext Hi Hi' → Ext Hi' H → ds.length ≤ i → J.stop i H
  go : ∀ Hi' H i, Ext Hi Hi' → Ext Hi' H → i < ds.length → J.go i H
  yld : ∀ Hi' H i x H' d, Ext Hi Hi' → Ext Hi' H → ds[i]? = some d → J.yld i H x H' → ∃ Hi2, Ext Hi' Hi2 ∧ Ext H H' ∧ Ext Hi2 H' ∧ (∀ a o, Hi2 a = some o → Hi' a = some o ∨ H a = none) ∧ Rep K Hi2 x d
abbrev WI := Ev → (List D → Ev → Prop) → XW → Prop
def SimI (G : Gb) (W : WX) (t : TI) (w : WI) : Prop := ∀ (C : Cf) (Hi : Hp) (σ : St) (H : Hp) (Γ : Ev) (R : It → Hp → Prop) (Qd : List D → Ev → Prop) (Xd : XW), Rel G C Hi σ H Γ → w Γ Qd Xd →
  (∀ J ds H' Hi' Γ', Ext Hi Hi' → Rel G C Hi' σ H' Γ' → Items G.K Hi' J ds → Qd ds Γ' → R J H') →
  (∀ x c d H' Hi' Γ', Ext Hi Hi' → Rel G C Hi' σ H' Γ' → G.xr x c d Hi' → Xd x Γ' → W c d σ H') → t σ H R
def loopW (g : WG) (b : WS) (D : WD) (X : XW) : List PyData → Ev → Prop
  | [], Γ => D.nx Γ
  | d :: ds, Γ => g d Γ fun Γ1 => b Γ1 ⟨loopW g b D X ds, D.rt, D.nx, loopW g b D X ds⟩ X
def wFor (wi : WI) (g : WG) (b : WS) : WS := fun Γ D X => wi Γ (fun ds Γ1 => loopW g b D X ds Γ1) X
theorem sim_for {ti : TI} {wi : WI} {g : TG} {wg : WG} {tb : TS} {wb : WS} (hi : SimI G W ti wi) (hg : SimG G g wg) (hb : SimS G W tb wb) : SimS G W (tFor ti g tb) (wFor wi wg wb) := by
  intro C Hi σ H Γ Dn Dd Xd c hw h1 h2 h3 h4 h5
  refine hi C Hi σ H Γ _ _ Xd c hw (fun J ds H1 Hi1 Γ1 e1 c1 it q => ?_) fun x c d => h5 x c d σ
  refine ⟨fun i m σ' H' => m = ds.length - i ∧ i ≤ ds.length ∧ ∃ Hi' Γ', Ext Hi1 Hi' ∧ Rel G C Hi' σ' H' Γ' ∧ loopW wg wb Dd Xd (ds.drop i) Γ', ⟨ds.length, by simp, Nat.zero_le _, Hi1, Γ1, Ext.refl _, c1, q⟩, ?_⟩
  rintro i m σ2 H2 ⟨rfl, hil, Hi2, Γ2, e2, c2, q2⟩
  by_cases hlt : i < ds.length
  · have hd : ds.drop i = ds[i] :: ds.drop (i + 1) := List.drop_eq_getElem_cons hlt
    rw [hd] at q2
    refine .inr ⟨it.go Hi2 H2 i e2 c2.imm hlt, fun σ' H' => ∃ Hi' Γ', Ext Hi1 Hi' ∧ Rel G C Hi' σ' H' Γ' ∧ loopW wg wb Dd Xd (ds.drop (i + 1)) Γ', fun σ' H' z => ⟨ds.length - (i + 1), by omega, rfl, hlt, z⟩, fun x H3 y => ?_⟩
    obtain ⟨Hi3, e3, k3, im3, ov3, r3⟩ := it.yld Hi2 H2 i x H3 ds[i] e2 c2.imm (List.getElem?_eq_getElem hlt) y
    have c3 := c2.grow k3 e3 im3 ov3
    refine hg C Hi3 σ2 H3 Γ2 x _ _ _ c3 r3 q2 fun σ4 Γ4 c4 q4 => ?_
    have f3 := (e1.trans e2).trans e3
    have f3' := e2.trans e3
    exact hb C Hi3 σ4 H3 Γ4 _ _ Xd c4 q4 (fun σ' H' Hi' Γ' e c' q' => ⟨Hi', Γ', f3'.trans e, c', q'⟩) (fun v r σ' H' Hi' Γ' e => h2 v r σ' H' Hi' Γ' (f3.trans e))
      (fun σ' H' Hi' Γ' e => h1 σ' H' Hi' Γ' (f3.trans e)) (fun σ' H' Hi' Γ' e c' q' => ⟨Hi', Γ', f3'.trans e, c', q'⟩) fun x c d σ' H' Hi' Γ' e => h5 x c d σ' H' Hi' Γ' (f3.trans e)
  · have e : i = ds.length := by omega
    subst e
    rw [List.drop_length] at q2
    exact .inl ⟨it.stop Hi2 H2 _ e2 c2.imm (Nat.le_refl _), h1 σ2 H2 Hi2 Γ2 (e1.trans e2) c2 q2⟩
def wiL (w : WE) : WI := fun Γ Q X => w Γ (fun r Γ1 => frW r Γ1 fun d Γ2 => isL d fun ds => Q ds Γ2) X
theorem Items.list {K : Fg} {a : Addr} {xs : List V} {ds : List D} (h : SqL K Hi a xs) (r : Reps K Hi xs ds) : Items K Hi (Itl K a) ds where
  stop := fun Hi' H i e k hi => ⟨xs, (e.trans k).sqL h, by rw [r.length]; exact hi⟩
  go := fun Hi' H i e k hi => by
    obtain ⟨v, h1, _⟩ := r.get (List.getElem?_eq_getElem hi)
    exact ⟨xs, v, (e.trans k).sqL h, h1⟩
  yld := fun Hi' H i x H' d e k hd y => by
    obtain ⟨rfl, y⟩ := y
    obtain ⟨v, h1, h2⟩ := r.get hd
    have := y xs ((e.trans k).sqL h)
    rw [h1] at this; cases this
    exact ⟨Hi', Ext.refl _, Ext.refl _, k, fun _ _ z => .inl z, h2.mono e⟩
theorem simi_list {t : TE} {w : WE} (h : SimE G W t w) : SimI G W (iList G.K t) (wiL w) := by
  intro C Hi σ H Γ R Qd Xd c hw hQ hX
  refine h C Hi σ H Γ _ _ Xd c hw (fun v r H1 Hi1 Γ1 e1 o1 q => ?_) hX
  obtain ⟨d, Hi2, Γ2, e2, c2, r2, q2⟩ := o1.share q
  obtain ⟨ds, rfl, q2⟩ := isL_inv q2
  cases r2 with
  | lst s r => exact ⟨_, rfl, ⟨_, SqL.of (c2.imm _ _ s)⟩, hQ _ ds H1 Hi2 Γ2 (e1.trans e2) c2 (.list (SqL.of s) r) q2⟩
def rangeD (lo : Int) (n : Nat) : List D := (List.range n).map fun (i : Nat) => .int (lo + (i : Int))
theorem rangeD_get {lo : Int} {n i : Nat} {d : D} (h : (rangeD lo n)[i]? = some d) : i < n ∧ d = .int (lo + (i : Int)) := by
  unfold rangeD at h
  rw [List.getElem?_map] at h
  by_cases hi : i < n
  · rw [List.getElem?_range hi] at h
    exact ⟨hi, (Option.some.inj h).symm⟩
  · rw [List.getElem?_eq_none (by simp; omega)] at h; cases h
theorem Items.range {K : Fg} {lo : Int} {n : Nat} : Items K Hi (Itr lo n) (rangeD lo n) where
  stop := fun Hi' H i e k hi => by
    have : n ≤ i := by simpa [rangeD] using hi
    exact this
  go := fun Hi' H i e k hi => by
    have : i < n := by simpa [rangeD] using hi
    exact this
  yld := fun Hi' H i x H' d e k hd y => by
    obtain ⟨rfl, rfl⟩ := y
    obtain ⟨_, rfl⟩ := rangeD_get hd
    exact ⟨Hi', Ext.refl _, Ext.refl _, k, fun _ _ z => .inl z, .int _⟩
def wiR1 (wa : WA) : WI := fun Γ Q X => wa Γ (fun rs Γ1 => rdAll rs Γ1 fun ds => match ds with
  | [.int j] => -(2 ^ 62) ≤ j ∧ j < 2 ^ 62 ∧ Q (rangeD 0 j.toNat) Γ1
  | _ => False) X
theorem simi_range1 {t : TA} {w : WA} (h : SimA G W t w) : SimI G W (iRng1 t) (wiR1 w) := by
  intro C Hi σ H Γ R Qd Xd c hw hQ hX
  refine h C Hi σ H Γ _ _ Xd c hw (fun vs rs H1 Hi1 Γ1 e1 c1 h1 q => ?_) hX
  obtain ⟨ds, bs, q⟩ := h1.read c1 q
  split at q
  · rename_i j
    obtain ⟨q1, q2, q⟩ := q
    cases bs with
    | cons b1 br =>
      cases br
      rw [b1.int]
      exact ⟨j, rfl, q1, q2, hQ _ _ H1 Hi1 Γ1 e1 c1 .range q⟩
  · exact q.elim
def wiR2 (wa : WA) : WI := fun Γ Q X => wa Γ (fun rs Γ1 => rdAll rs Γ1 fun ds => match ds with
  | [.int i, .int j] => (-(2 ^ 62) ≤ i ∧ i < 2 ^ 62 ∧ -(2 ^ 62) ≤ j ∧ j < 2 ^ 62) ∧ Q (rangeD i (j - i).toNat) Γ1
  | _ => False) X
def enumD (ds : List D) : List D := ds.mapIdx fun (i : Nat) d => .tuple [.int (i : Int), d]
theorem enumD_length (ds : List D) : (enumD ds).length = ds.length := by simp [enumD]
theorem enumD_get {ds : List D} {i : Nat} {d : D} (h : (enumD ds)[i]? = some d) : ∃ e, ds[i]? = some e ∧ d = .tuple [.int (i : Int), e] := by
  unfold enumD at h
  rw [List.getElem?_mapIdx] at h
  cases q : ds[i]? with
  | none => rw [q] at h; cases h
  | some e => rw [q] at h; exact ⟨e, rfl, (Option.some.inj h).symm⟩
theorem yld_tup {K : Fg} {T : Addr} {xs : List V} {ds : List D} (k : Ext Hi H) (hT : H T = none) (r : Reps K Hi xs ds) :
    ∃ Hi2, Ext Hi Hi2 ∧ Ext H (upd H T (.tup xs)) ∧ Ext Hi2 (upd H T (.tup xs)) ∧ (∀ a o, Hi2 a = some o → Hi a = some o ∨ H a = none) ∧ Rep K Hi2 (.ref T) (.tuple ds) := by
  have hn := k.none_of hT
  refine ⟨upd Hi T (.tup xs), Ext.new hn, Ext.new hT, fun a o h => ?_, fun a o h => ?_, .tup upd_same (r.mono (Ext.new hn))⟩
  · by_cases e : a = T
    · rw [e, upd_same] at h; rw [e, upd_same]; exact h
    · rw [upd_ne e] at h; rw [upd_ne e]; exact k a o h
  · by_cases e : a = T
    · rw [e]; exact .inr hT
    · rw [upd_ne e] at h; exact .inl h
theorem Items.enum {K : Fg} {a : Addr} {xs : List V} {ds : List D} (h : SqL K Hi a xs) (r : Reps K Hi xs ds) : Items K Hi (Ite K a) (enumD ds) where
  stop := fun Hi' H i e k hi => ⟨xs, (e.trans k).sqL h, by rw [r.length]; rw [enumD_length] at hi; exact hi⟩
  go := fun Hi' H i e k hi => by
    rw [enumD_length] at hi
    obtain ⟨v, h1, _⟩ := r.get (List.getElem?_eq_getElem hi)
    exact ⟨xs, v, (e.trans k).sqL h, h1⟩
  yld := fun Hi' H i x H' d e k hd y => by
    obtain ⟨T, w, rfl, hT, rfl, y⟩ := y
    obtain ⟨d', hd', rfl⟩ := enumD_get hd
    obtain ⟨v, h1, h2⟩ := r.get hd'
    have := y xs ((e.trans k).sqL h)
    rw [h1] at this; cases this
    exact yld_tup k hT (.cons (.int _) (.one (h2.mono e)))
def wiA (f : List D → List D) (wa : WA) : WI := fun Γ Q X => wa Γ (fun rs Γ1 => frAll rs Γ1 fun ds Γ2 => match ds with
  | [.list l] => Q (f l) Γ2
  | _ => False) X
theorem simi_enum {t : TA} {w : WA} (h : SimA G W t w) : SimI G W (iEnum G.K t) (wiA enumD w) := by
  intro C Hi σ H Γ R Qd Xd c hw hQ hX
  refine h C Hi σ H Γ _ _ Xd c hw (fun vs rs H1 Hi1 Γ1 e1 c1 h1 q => ?_) hX
  obtain ⟨ds, Hi2, Γ2, e2, c2, rp, q⟩ := h1.share (Ext.refl _) c1 q
  split at q
  · rename_i l
    cases rp with
    | cons r1 rr =>
      cases rr
      cases r1 with
      | lst s r => exact ⟨_, _, rfl, SqL.of (c2.imm _ _ s), hQ _ _ H1 Hi2 Γ2 (e1.trans e2) c2 (.enum (SqL.of s) r) q⟩
  · exact q.elim
theorem Items.zip {K : Fg} {a b : Addr} {xs ys : List V} {ds es : List D} (h : SqL K Hi a xs) (r : Reps K Hi xs ds) (h2 : SqL K Hi b ys) (r2 : Reps K Hi ys es) : Items K Hi (Itz K a b) (List.zipWith (fun x y => .tuple [x, y]) ds es) where
  stop := fun Hi' H i e k hi => ⟨xs, ys, (e.trans k).sqL h, (e.trans k).sqL h2, by
    have := r.length
    have := r2.length
    simp at hi
    omega⟩
  go := fun Hi' H i e k hi => by
    rw [List.length_zipWith] at hi
    obtain ⟨v, q1, _⟩ := r.get (List.getElem?_eq_getElem (show i < ds.length by omega))
    obtain ⟨w, q2, _⟩ := r2.get (List.getElem?_eq_getElem (show i < es.length by omega))
    exact ⟨xs, ys, v, w, (e.trans k).sqL h, (e.trans k).sqL h2, q1, q2⟩
  yld := fun Hi' H i x H' d e k hd y => by
    obtain ⟨T, x1, x2, rfl, hT, rfl, y1, y2⟩ := y
    rw [List.getElem?_zipWith] at hd
    cases q1 : ds[i]? with
    | none => rw [q1] at hd; cases hd
    | some d1 =>
      cases q2 : es[i]? with
      | none => rw [q1, q2] at hd; cases hd
      | some d2 =>
        rw [q1, q2] at hd
        cases hd
        obtain ⟨v, z1, z2⟩ := r.get q1
        obtain ⟨w, z3, z4⟩ := r2.get q2
        have := y1 xs ((e.trans k).sqL h)
        rw [z1] at this; cases this
        have := y2 ys ((e.trans k).sqL h2)
        rw [z3] at this; cases this
        exact yld_tup k hT (.cons (z2.mono e) (.one (z4.mono e)))
def wiZ (wa : WA) : WI := fun Γ Q X => wa Γ (fun rs Γ1 => frAll rs Γ1 fun ds Γ2 => match ds with
  | [.list l, .list m] => Q (List.zipWith (fun x y => .tuple [x, y]) l m) Γ2
  | _ => False) X
def signsD (z : Str) : List D := z.cps.toList.map fun c => .str ⟨#[c]⟩
theorem Items.str {K : Fg} {z : Str} : Items K Hi (Its z) (signsD z) where
  stop := fun Hi' H i e k hi => by
    have : z.cps.size ≤ i := by simpa [signsD] using hi
    exact this
  go := fun Hi' H i e k hi => by
    have : i < z.cps.size := by simpa [signsD] using hi
    exact this
  yld := fun Hi' H i x H' d e k hd y => by
    obtain ⟨rfl, c, hc, rfl⟩ := y
    unfold signsD at hd
    rw [List.getElem?_map, Array.getElem?_toList, hc] at hd
    cases hd
    exact ⟨Hi', Ext.refl _, Ext.refl _, k, fun _ _ z => .inl z, .str _⟩
def wiS (w : WE) : WI := fun Γ Q X => w Γ (fun r Γ1 => rdW r Γ1 fun d => isS d fun z => Q (signsD z) Γ1) X
theorem simi_str {t : TE} {w : WE} (h : SimE G W t w) : SimI G W (iStr t) (wiS w) := by
  intro C Hi σ H Γ R Qd Xd c hw hQ hX
  refine h C Hi σ H Γ _ _ Xd c hw (fun v r H1 Hi1 Γ1 e1 o1 q => ?_) hX
  obtain ⟨Hi2, e2, c2, h2⟩ := o1.hold
  obtain ⟨d, b1, q⟩ := h2.read c2 q
  obtain ⟨z, rfl, q⟩ := isS_inv q
  exact ⟨z, b1.str, hQ _ _ H1 Hi2 Γ1 (e1.trans e2) c2 .str q⟩

end
end VL

set_option Elab.async false
set_option linter.all false
set_option maxRecDepth 100000
namespace VL
open PySem L2

section
variable {X : Cx}
def rAddA (K : Fg) : R2 := fun x y H Q => rI0 (fun i j => .int (i + j)) x y H Q ∨ (∃ i j, x = .str i ∧ y = .str j ∧ i.length + j.length ≤ sizeLine ∧ Q (.str (i ++ j)) H) ∨ rCat x y H Q ∨
  (∃ i k, x = .int i ∧ y = .bl k ∧ Q (.int (i + PyProof.Rows.b2i k)) H)
theorem op_addA : OpR X (binaryOp .Add) (rAddA X.K) := op_add.or (op_add_str.or (op_cat.or op_add_ib))
def rMulA : R2 := fun x y H Q => rI CMulW (fun i j => .int (i * j)) x y H Q ∨ rRep x y H Q
theorem op_mulA : OpR X (binaryOp .Mult) rMulA := op_mulW.or op_rep
def rIxD : R2 := fun x y H Q => ∃ a v, x = .ref a ∧ DGet H a y (some v) ∧ Q v H
theorem ix_dict (hu : X.A.units + 1 < cLine) : IxR X rIxD := by
  intro value slice pins s σ H x y v u Q I rx ry h hs
  obtain ⟨a, z, rfl, g, q⟩ := h
  cases rx
  exact PyProof.Rows.tail_any (dict_typeIs I g) PySem.F.slot_dict_getitem.lookup (d_getItem hu I g ry fun w' s3 I3 rw' => ⟨z, H, I3, rw', q⟩) hs
def rIxA (K : Fg) : R2 := fun x y H Q => rIx K x y H Q ∨ rIxD x y H Q
theorem ix_any (hu : X.A.units + 1 < cLine) : IxR X (rIxA X.K) := ix_seq.or (ix_dict hu)
def rInDk : R2 := fun y x H Q => ∃ a o, x = .ref a ∧ DGet H a y o ∧ Q (.bl o.isSome) H
def rNotInDk : R2 := fun y x H Q => ∃ a o, x = .ref a ∧ DGet H a y o ∧ Q (.bl (!o.isSome)) H
theorem op_inDk (hu : X.A.units + 1 < cLine) : OpR X (compareOp .In) rInDk := by
  intro pins s σ H x y v u Q I rx ry h
  obtain ⟨a, o, rfl, g, q⟩ := h
  cases ry
  exact d_in hu I g rx fun s3 I3 => ⟨.bl o.isSome, H, I3, rfl, q⟩
theorem op_notInDk (hu : X.A.units + 1 < cLine) : OpR X (compareOp .NotIn) rNotInDk := by
  intro pins s σ H x y v u Q I rx ry h
  obtain ⟨a, o, rfl, g, q⟩ := h
  cases ry
  exact d_notIn hu I g rx fun s3 I3 => ⟨.bl (!o.isSome), H, I3, rfl, q⟩
def rInA (K : Fg) : R2 := fun x y H Q => rInD K x y H Q ∨ rIn K false x y H Q ∨ rInDk x y H Q ∨ (∃ (c : Nat) (z : Str), x = .str ⟨#[c]⟩ ∧ y = .str z ∧ Q (.bl (decide (c ∈ z.cps.toList))) H)
def rNotInA (K : Fg) : R2 := fun x y H Q => rNotInD K x y H Q ∨ rIn K true x y H Q ∨ rNotInDk x y H Q ∨ (∃ (c : Nat) (z : Str), x = .str ⟨#[c]⟩ ∧ y = .str z ∧ Q (.bl (!decide (c ∈ z.cps.toList))) H)
theorem op_inA (hu : X.A.units + 65 < cLine) : OpR X (compareOp .In) (rInA X.K) := (op_inD hu).or (op_in_seq.or ((op_inDk (by omega)).or op_in_sign))
theorem op_notInA (hu : X.A.units + 65 < cLine) : OpR X (compareOp .NotIn) (rNotInA X.K) := (op_notInD hu).or (op_notIn_seq.or ((op_notInDk (by omega)).or op_notIn_sign))
end

def keyEq : D → D → Bool
  | .int i, .int j => i == j
  | .str x, .str y => decide (x = y)
  | _, _ => false
def dget (ps : List (D × D)) (k : D) : Option D := (ps.find? fun p => keyEq p.1 k).map (·.2)
def dput (ps : List (D × D)) (k v : D) : List (D × D) := if ps.any (fun p => keyEq p.1 k) then ps.map fun p => if keyEq p.1 k = true then (p.1, v) else p else ps ++ [(k, v)]
def ddrop (ps : List (D × D)) (k : D) : List (D × D) := ps.filter fun p => !keyEq p.1 k
theorem keyEq_kD (a b : Key) : keyEq (kD a) (kD b) = decide (a = b) := by
  cases a with
  | inl i =>
    cases b with
    | inl j => rw [key_ll]; rfl
    | inr y => rw [key_lr]; rfl
  | inr x =>
    cases b with
    | inl j => rw [key_rl]; rfl
    | inr y => rw [key_rr]; rfl
def isK (d : D) (k : Prop) : Prop := match d with
  | .int _ => k
  | .str _ => k
  | _ => False
theorem isK_inv {d : D} {k : Prop} (h : isK d k) : (∃ key, d = kD key) ∧ k := by
  unfold isK at h
  split at h
  · exact ⟨⟨.inl _, rfl⟩, h⟩
  · exact ⟨⟨.inr _, rfl⟩, h⟩
  · exact h.elim
section
variable {K : Fg} {H Hi : Hp}
theorem dgetR {H : Hp} {a : Addr} {kvs : List (Key × V)} {k : Key} (e : Rd H a (.dK kvs)) : DGet H a (kV k) (valV kvs k) := .inl ⟨kvs, k, e, rfl, rfl⟩
theorem RepKV.get : ∀ {kvs : List (Key × V)} {ps : List (D × D)} {k : Key} {d : D}, RepKV K H kvs ps → dget ps (kD k) = some d → ∃ v, valV kvs k = some v ∧ Rep K H v d
  | _, _, k, d, .nil, e => by simp [dget] at e
  | _, _, k, d, @RepKV.cons _ _ k0 v0 kvs d0 ps h r, e => by
    by_cases hk : k0 = k
    · have h1 : keyEq (kD k0) (kD k) = true := by rw [keyEq_kD]; exact decide_eq_true hk
      have e2 : d0 = d := by simpa [dget, List.find?_cons, h1] using e
      subst e2
      exact ⟨v0, valV_pos hk, h⟩
    · have h1 : keyEq (kD k0) (kD k) = false := by rw [keyEq_kD]; exact decide_eq_false hk
      have e2 : dget ps (kD k) = some d := by simpa [dget, List.find?_cons, h1] using e
      obtain ⟨v, q1, q2⟩ := RepKV.get r e2
      exact ⟨v, by rw [valV_neg hk]; exact q1, q2⟩
theorem RepKV.none : ∀ {kvs : List (Key × V)} {ps : List (D × D)} {k : Key}, RepKV K H kvs ps → (dget ps (kD k) = none ↔ valV kvs k = none)
  | _, _, k, .nil => by simp [dget, valV]
  | _, _, k, @RepKV.cons _ _ k0 v0 kvs d0 ps h r => by
    by_cases hk : k0 = k
    · have h1 : keyEq (kD k0) (kD k) = true := by rw [keyEq_kD]; exact decide_eq_true hk
      have e1 : dget ((kD k0, d0) :: ps) (kD k) = some d0 := by simp [dget, List.find?_cons, h1]
      rw [e1, valV_pos (p := (k0, v0)) hk]
      simp
    · have h1 : keyEq (kD k0) (kD k) = false := by rw [keyEq_kD]; exact decide_eq_false hk
      have e1 : dget ((kD k0, d0) :: ps) (kD k) = dget ps (kD k) := by simp [dget, List.find?_cons, h1]
      rw [e1, valV_neg (p := (k0, v0)) hk]
      exact RepKV.none r
theorem RepKV.isSome {kvs : List (Key × V)} {ps : List (D × D)} {k : Key} (r : RepKV K H kvs ps) : (valV kvs k).isSome = (dget ps (kD k)).isSome := by
  cases e : dget ps (kD k) with
  | none => rw [r.none.mp e]; rfl
  | some d => obtain ⟨v, h, _⟩ := r.get e; rw [h]; rfl
theorem RepKV.any (k : Key) : ∀ {kvs : List (Key × V)} {ps : List (D × D)}, RepKV K H kvs ps → (kvs.any fun kv => decide (kv.1 = k)) = ps.any fun p => keyEq p.1 (kD k)
  | _, _, .nil => rfl
  | _, _, .cons _ r => by rw [List.any_cons, List.any_cons, RepKV.any k r, keyEq_kD]
theorem RepKV.repl {v : V} {d : D} (k : Key) (h : Rep K H v d) : ∀ {kvs : List (Key × V)} {ps : List (D × D)}, RepKV K H kvs ps →
    RepKV K H (kvs.map fun kv => if kv.1 = k then (kv.1, v) else kv) (ps.map fun p => if keyEq p.1 (kD k) = true then (p.1, d) else p)
  | _, _, .nil => .nil
  | _, _, @RepKV.cons _ _ k0 v0 kvs d0 ps h0 r => by
    rw [List.map_cons, List.map_cons]
    by_cases hk : k0 = k
    · have h1 : keyEq (kD k0) (kD k) = true := by rw [keyEq_kD]; exact decide_eq_true hk
      rw [if_pos hk, if_pos h1]
      exact .cons h (RepKV.repl k h r)
    · have h1 : ¬ keyEq (kD k0) (kD k) = true := by rw [keyEq_kD]; simpa using hk
      rw [if_neg hk, if_neg h1]
      exact .cons h0 (RepKV.repl k h r)
theorem RepKV.append : ∀ {kvs kvs' : List (Key × V)} {ps ps' : List (D × D)}, RepKV K H kvs ps → RepKV K H kvs' ps' → RepKV K H (kvs ++ kvs') (ps ++ ps')
  | _, _, _, _, .nil, s => s
  | _, _, _, _, .cons h r, s => .cons h (RepKV.append r s)
theorem RepKV.put {kvs : List (Key × V)} {ps : List (D × D)} {k : Key} {v : V} {d : D} (r : RepKV K H kvs ps) (h : Rep K H v d) : RepKV K H (putK kvs k v) (dput ps (kD k) d) := by
  unfold putK dput
  rw [r.any k]
  split
  · exact r.repl k h
  · exact r.append (.cons h .nil)
theorem RepKV.drop (k : Key) : ∀ {kvs : List (Key × V)} {ps : List (D × D)}, RepKV K H kvs ps → RepKV K H (dropK kvs k) (ddrop ps (kD k))
  | _, _, .nil => .nil
  | _, _, @RepKV.cons _ _ k0 v0 kvs d0 ps h r => by
    unfold dropK ddrop
    by_cases hk : k0 = k
    · have h1 : keyEq (kD k0) (kD k) = true := by rw [keyEq_kD]; exact decide_eq_true hk
      rw [List.filter_cons_of_neg (by simpa using hk), List.filter_cons_of_neg (by simp [h1])]
      exact RepKV.drop k r
    · have h1 : keyEq (kD k0) (kD k) = false := by rw [keyEq_kD]; exact decide_eq_false hk
      rw [List.filter_cons_of_pos (by simpa using hk), List.filter_cons_of_pos (by simp [h1])]
      exact .cons h (RepKV.drop k r)
theorem RepKV.length : ∀ {kvs : List (Key × V)} {ps : List (D × D)}, RepKV K H kvs ps → kvs.length = ps.length
  | _, _, .nil => rfl
  | _, _, .cons _ r => congrArg (· + 1) (RepKV.length r)
theorem Rep.key {y : V} {k : Key} (h : Rep K H y (kD k)) : y = kV k := by
  cases k with
  | inl i => cases h; rfl
  | inr x => cases h; rfl
theorem Rdb.key {y : V} {k : Key} (h : Rdb K Hi H y (kD k)) : y = kV k := by
  rcases h with h | ⟨p, _, h⟩
  · exact h.key
  · cases k <;> cases h
end

section
variable {G : Gb} {C : Cf} {Hi Hi' H H' : Hp} {σ : St} {Γ : Ev} {W : WX}
def oAdd : Op2 := fun a b k => match a, b with
  | .int i, .int j => k (.sh (.int (i + j)))
  | .str x, .str y => x.length + y.length ≤ sizeLine ∧ k (.sh (.str (x ++ y)))
  | .list xs, .list ys => xs.length + ys.length ≤ sizeLine ∧ k (.ow (.list (xs ++ ys)))
  | .int i, .bool b => k (.sh (.int (i + PyProof.Rows.b2i b)))
  | _, _ => False
theorem sem_add : Sem2 G (rAddA G.K) oAdd := by
  intro C Hi σ H Γ x y a b k Q c ha hb h q
  unfold oAdd at h
  split at h
  · exact .inl ⟨_, _, ha.int, hb.int, q _ _ H Hi (Ext.refl _) (out_int c _) h⟩
  · exact .inr (.inl ⟨_, _, ha.str, hb.str, h.1, q _ _ H Hi (Ext.refl _) (out_str c _) h.2⟩)
  · obtain ⟨p, xs, e1, s1, r1⟩ := ha.list c.imm
    obtain ⟨p', ys, e2, s2, r2⟩ := hb.list c.imm
    refine .inr (.inr (.inl ⟨p, p', xs, ys, e1, e2, s1, s2, by rw [r1.length, r2.length]; exact h.1, fun t ht => q _ _ _ Hi (Ext.refl _) (Out.newL c ht (r1.append r2)) h.2⟩))
  · exact .inr (.inr (.inr ⟨_, _, ha.int, hb.bl, q _ _ H Hi (Ext.refl _) (out_int c _) h⟩))
  · exact h.elim
theorem sem_sub : Sem2 G (rI0 fun i j => .int (i - j)) (oII (fun _ _ => True) (· - ·)) := sem_II0
def oMul : Op2 := fun a b k => match a, b with
  | .int i, .int j => CMulW i j ∧ k (.sh (.int (i * j)))
  | .list l, .int j => (-(2 ^ 63) ≤ j ∧ j < 2 ^ 63) ∧ l.length * j.toNat ≤ sizeLine ∧ k (.ow (.list (List.replicate j.toNat l).flatten))
  | _, _ => False
theorem sem_mul : Sem2 G rMulA oMul := by
  intro C Hi σ H Γ x y a b k Q c ha hb h q
  unfold oMul at h
  split at h
  · exact .inl ⟨_, _, ha.int, hb.int, h.1, q _ _ H Hi (Ext.refl _) (out_int c _) h.2⟩
  · obtain ⟨p, xs, rfl, s1, r1⟩ := ha.list c.imm
    exact .inr ⟨p, _, xs, rfl, hb.int, s1, h.1.1, h.1.2, by rw [r1.length]; exact h.2.1, fun p' hp => q _ _ _ Hi (Ext.refl _) (Out.newL c hp (r1.repl _)) h.2.2⟩
  · exact h.elim
theorem sem_fdiv : Sem2 G (rI CDivW fun i j => .int (i / j)) (oII CDivW (· / ·)) := sem_II (fun _ _ h => h) fun _ _ _ => rfl
theorem sem_mod : Sem2 G (rI (fun _ j => 0 < j) fun i j => .int (i % j)) (oII (fun _ j => 0 < j) (· % ·)) := sem_II (fun _ _ h => h) fun _ _ _ => rfl
theorem sem_neg : Sem1 G (rU fun i => .int (-i)) (fun a k => isI a fun i => k (.sh (.int (-i)))) := by
  intro C Hi σ H Γ x a k Q c ha h q
  obtain ⟨i, rfl, h⟩ := isI_inv h
  exact ⟨i, ha.int, q _ _ H Hi (Ext.refl _) (out_int c _) h⟩
def oIx : Op2 := fun a b k => match a with
  | .list l => isI b fun i => match atI l i with
    | some d => k (.sh d)
    | none => False
  | .tuple l => isI b fun i => match atI l i with
    | some d => k (.sh d)
    | none => False
  | .str z => isI b fun i => z.length ≤ sizeLine ∧ match atI z.cps.toList i with
    | some c => k (.sh (.str ⟨#[c]⟩))
    | none => False
  | .dict ps => isK b (match dget ps b with
    | some d => k (.sh d)
    | none => False)
  | _ => False
theorem atI_rep {K : Fg} {xs : List V} {ds : List D} {i : Int} {d : D} (r : Reps K Hi xs ds) (h : atI ds i = some d) : ∃ v, atI xs i = some v ∧ Rep K Hi v d := by
  unfold atI at h ⊢
  rw [r.length]
  obtain ⟨j, h1, h2⟩ := Option.bind_eq_some_iff.mp h
  obtain ⟨v, h3, h4⟩ := r.get h2
  exact ⟨v, by rw [h1]; exact h3, h4⟩
theorem sem_ix : Sem2 G (rIxA G.K) oIx := by
  intro C Hi σ H Γ x y a b k Q c ha hb h q
  unfold oIx at h
  split at h
  · obtain ⟨i, rfl, h1⟩ := isI_inv h
    split at h1
    · rename_i d e
      obtain ⟨p, xs, e1, s1, r1⟩ := ha.list c.imm
      obtain ⟨v, e2, r2⟩ := atI_rep r1 e
      exact .inl (.inl ⟨p, xs, i, v, e1, hb.int, SqL.of s1, e2, q v (.sh d) H Hi (Ext.refl _) ⟨c, r2⟩ h1⟩)
    · exact h1.elim
  · obtain ⟨i, rfl, h1⟩ := isI_inv h
    split at h1
    · rename_i d e
      obtain ⟨p, xs, e1, s1, r1⟩ := ha.tuple c.imm
      obtain ⟨v, e2, r2⟩ := atI_rep r1 e
      exact .inl (.inr (.inl ⟨p, xs, i, v, e1, hb.int, SqT.of s1, e2, q v (.sh d) H Hi (Ext.refl _) ⟨c, r2⟩ h1⟩))
    · exact h1.elim
  · obtain ⟨i, rfl, hz, h1⟩ := isI_inv h
    split at h1
    · rename_i z d e
      exact .inl (.inr (.inr ⟨_, i, d, ha.str, hb.int, hz, e, q _ _ H Hi (Ext.refl _) (out_str c _) h1⟩))
    · exact h1.elim
  · obtain ⟨⟨key, rfl⟩, h1⟩ := isK_inv h
    split at h1
    · rename_i d e
      obtain ⟨p, kvs, e1, s1, r1⟩ := ha.dict c.imm
      obtain ⟨v, e2, r2⟩ := r1.get e
      refine .inr ⟨p, v, e1, ?_, q v (.sh d) H Hi (Ext.refl _) ⟨c, r2⟩ h1⟩
      rw [hb.key, ← e2]
      exact dgetR s1
    · exact h1.elim
  · exact h.elim
def flatD : D → Bool
  | .none => true
  | .bool _ => true
  | .int _ => true
  | .str _ => true
  | _ => false
theorem flat_v {K : Fg} {x : V} {d : D} (h : Rep K Hi x d) (f : flatD d = true) : flatV x = true := by
  cases h <;> first | rfl | cases f
theorem flat_eq {K : Fg} {x y : V} {d e : D} (h : Rep K Hi x d) (h2 : Rep K Hi y e) (f : flatD d = true) (f2 : flatD e = true) : eqV x y = PyData.eqv d e := by
  cases h <;> cases h2 <;> first | rfl | (simp [eqV, PyData.eqv]; done) | cases f | cases f2
theorem flat_all {K : Fg} : ∀ {xs : List V} {ds : List D}, Reps K Hi xs ds → ds.all flatD = true → xs.all flatV = true
  | _, _, .nil, _ => rfl
  | _, _, .cons h r, f => by
    rw [List.all_cons, Bool.and_eq_true] at f ⊢
    exact ⟨flat_v h f.1, flat_all r f.2⟩
theorem flat_in {K : Fg} {x : V} {d : D} (h : Rep K Hi x d) (f : flatD d = true) : ∀ {xs : List V} {ds : List D}, Reps K Hi xs ds → ds.all flatD = true → inV x xs = ds.any fun z => PyData.eqv z d
  | _, _, .nil, _ => rfl
  | _, _, .cons h1 r, g => by
    rw [List.all_cons, Bool.and_eq_true] at g
    have ih := flat_in h f r g.2
    unfold inV at ih ⊢
    rw [List.any_cons, List.any_cons, ih, flat_eq h1 h g.1 f]
def oIn (neg : Bool) : Op2 := fun a b k => match b with
  | .list ds => SeqAt.shaped a = true ∧ SeqAt.shaped (.list ds) = true ∧ k (.sh (.bool (if neg then !(ds.any fun z => PyData.eqv z a) else ds.any fun z => PyData.eqv z a)))
  | .tuple ds => flatD a = true ∧ ds.all flatD = true ∧ k (.sh (.bool (if neg then !(ds.any fun z => PyData.eqv z a) else ds.any fun z => PyData.eqv z a)))
  | .dict ps => isK a (k (.sh (.bool (if neg then !(dget ps a).isSome else (dget ps a).isSome))))
  | .str z => isS a fun y => ∃ c, y = ⟨#[c]⟩ ∧ k (.sh (.bool (if neg then !decide (c ∈ z.cps.toList) else decide (c ∈ z.cps.toList))))
  | _ => False
theorem Rdb.flat {K : Fg} {x : V} {d : D} (h : Rdb K Hi H x d) (f : flatD d = true) : Rep K Hi x d := by
  rcases h with h | ⟨p, _, h⟩
  · exact h
  · cases h <;> cases f
theorem sem_in : Sem2 G (rInA G.K) (oIn false) := by
  intro C Hi σ H Γ x y a b k Q c ha hb h q
  unfold oIn at h
  split at h
  · obtain ⟨s1, s2, h⟩ := h
    exact .inl ⟨a, _, ha.dp c.imm s1, hb.dp c.imm s2, s1, s2, q _ _ H Hi (Ext.refl _) (out_bl c _) h⟩
  · obtain ⟨s1, s2, h⟩ := h
    obtain ⟨p, xs, e1, t1, r1⟩ := hb.tuple c.imm
    refine .inr (.inl ⟨p, xs, e1, .inr (SqT.of t1), flat_v (ha.flat s1) s1, flat_all r1 s2, ?_⟩)
    rw [flat_in (ha.flat s1) s1 r1 s2]
    exact q _ _ H Hi (Ext.refl _) (out_bl c _) h
  · obtain ⟨⟨key, rfl⟩, h1⟩ := isK_inv h
    obtain ⟨p, kvs, e1, t1, r1⟩ := hb.dict c.imm
    refine .inr (.inr (.inl ⟨p, _, e1, by rw [ha.key]; exact dgetR t1, ?_⟩))
    rw [r1.isSome]
    exact q _ _ H Hi (Ext.refl _) (out_bl c _) h1
  · obtain ⟨z, rfl, ch, rfl, h1⟩ := isS_inv h
    exact .inr (.inr (.inr ⟨ch, _, ha.str, hb.str, q _ _ H Hi (Ext.refl _) (out_bl c _) h1⟩))
  · exact h.elim
theorem sem_notin : Sem2 G (rNotInA G.K) (oIn true) := by
  intro C Hi σ H Γ x y a b k Q c ha hb h q
  unfold oIn at h
  split at h
  · obtain ⟨s1, s2, h⟩ := h
    exact .inl ⟨a, _, ha.dp c.imm s1, hb.dp c.imm s2, s1, s2, q _ _ H Hi (Ext.refl _) (out_bl c _) h⟩
  · obtain ⟨s1, s2, h⟩ := h
    obtain ⟨p, xs, e1, t1, r1⟩ := hb.tuple c.imm
    refine .inr (.inl ⟨p, xs, e1, .inr (SqT.of t1), flat_v (ha.flat s1) s1, flat_all r1 s2, ?_⟩)
    rw [flat_in (ha.flat s1) s1 r1 s2]
    exact q _ _ H Hi (Ext.refl _) (out_bl c _) h
  · obtain ⟨⟨key, rfl⟩, h1⟩ := isK_inv h
    obtain ⟨p, kvs, e1, t1, r1⟩ := hb.dict c.imm
    refine .inr (.inr (.inl ⟨p, _, e1, by rw [ha.key]; exact dgetR t1, ?_⟩))
    rw [r1.isSome]
    exact q _ _ H Hi (Ext.refl _) (out_bl c _) h1
  · obtain ⟨z, rfl, ch, rfl, h1⟩ := isS_inv h
    exact .inr (.inr (.inr ⟨ch, _, ha.str, hb.str, q _ _ H Hi (Ext.refl _) (out_bl c _) h1⟩))
  · exact h.elim

def SimO (G : Gb) (W : WX) (t : TO) (w : Ev → (Option Int → Ev → Prop) → XW → Prop) : Prop := ∀ (C : Cf) (Hi : Hp) (σ : St) (H : Hp) (Γ : Ev) (Q : Option Int → Hp → Prop) (Qd : Option Int → Ev → Prop) (Xd : XW), Rel G C Hi σ H Γ → w Γ Qd Xd →
  (∀ o H' Hi' Γ', Ext Hi Hi' → Rel G C Hi' σ H' Γ' → Qd o Γ' → Q o H') →
  (∀ x c d H' Hi' Γ', Ext Hi Hi' → Rel G C Hi' σ H' Γ' → G.xr x c d Hi' → Xd x Γ' → W c d σ H') → t σ H Q
abbrev WO := Ev → (Option Int → Ev → Prop) → XW → Prop
def wNoP : WO := fun Γ Q _ => Q none Γ
def wPart (w : WE) : WO := fun Γ Q X => w Γ (fun r Γ1 => rdW r Γ1 fun d => isI d fun i => Q (some i) Γ1) X
theorem simo_none : SimO G W tNoPart wNoP := fun C Hi σ H Γ Q Qd Xd c hw hQ hX => hQ none H Hi Γ (Ext.refl _) c hw
theorem simo_some {t : TE} {w : WE} (h : SimE G W t w) : SimO G W (tPart t) (wPart w) := by
  intro C Hi σ H Γ Q Qd Xd c hw hQ hX
  refine h C Hi σ H Γ _ _ Xd c hw (fun v r H1 Hi1 Γ1 e1 o1 q => ?_) hX
  obtain ⟨Hi2, e2, c2, h2⟩ := o1.hold
  obtain ⟨d, b1, q⟩ := h2.read c2 q
  obtain ⟨i, rfl, q⟩ := isI_inv q
  exact ⟨i, b1.int, hQ _ H1 Hi2 Γ1 (e1.trans e2) c2 q⟩
def cutD (xs : List D) (lo hi : Option Int) : List D := (xs.drop (HT.sIx xs.length 0 lo)).take (HT.sIx xs.length xs.length hi - HT.sIx xs.length 0 lo)
theorem cut_rep {K : Fg} {xs : List V} {ds : List D} (r : Reps K Hi xs ds) (lo hi : Option Int) : Reps K Hi (cutV xs lo hi) (cutD ds lo hi) := by
  unfold cutV cutD
  rw [r.length]
  exact (r.drop _).take _
def wSlL (wa : WE) (wl wh : WO) : WE := fun Γ Q X => wa Γ (fun r Γ1 => wl Γ1 (fun lo Γ2 => wh Γ2 (fun hi Γ3 => rdW r Γ3 fun d => isL d fun ds => Q (.ow (.list (cutD ds lo hi))) Γ3) X) X) X
theorem sim_slL {te : TE} {wa : WE} {tl th : TO} {wl wh : WO} (ha : SimE G W te wa) (h1 : SimO G W tl wl) (h2 : SimO G W th wh) : SimE G W (tSl (rSlL G.K) te tl th) (wSlL wa wl wh) := by
  intro C Hi σ H Γ Q Qd Xd c hw hQ hX
  refine ha C Hi σ H Γ _ _ Xd c hw (fun v1 r1 H1 Hi1 Γ1 e1 o1 q1 => ?_) hX
  obtain ⟨Hi2, e2, c2, hh2⟩ := o1.hold
  have f2 := e1.trans e2
  refine h1 C Hi2 σ H1 Γ1 _ _ Xd c2 q1 (fun lo H3 Hi3 Γ3 e3 c3 q3 => ?_) fun x c d H' Hi' Γ' e' => hX x c d H' Hi' Γ' (f2.trans e')
  refine h2 C Hi3 σ H3 Γ3 _ _ Xd c3 q3 (fun hi H4 Hi4 Γ4 e4 c4 q4 => ?_) fun x c d H' Hi' Γ' e' => hX x c d H' Hi' Γ' ((f2.trans e3).trans e')
  obtain ⟨d, b, q5⟩ := (hh2.mono (e3.trans e4)).read c4 q4
  obtain ⟨ds, rfl, q5⟩ := isL_inv q5
  obtain ⟨p, xs, e5, s5, r5⟩ := b.list c4.imm
  exact ⟨p, xs, e5, SqL.of s5, fun t ht => hQ _ _ _ Hi4 Γ4 ((f2.trans e3).trans e4) (Out.newL c4 ht (cut_rep r5 lo hi)) q5⟩

def o1 (o : Op1) : OpN := fun ds k => match ds with
  | [d] => o d k
  | _ => False
def o2 (o : Op2) : OpN := fun ds k => match ds with
  | [a, b] => o a b k
  | _ => False
theorem semN_1 {r : List V → Hp → VK → Prop} {o : Op1} (h : ∀ {C : Cf} {Hi : Hp} {σ : St} {H : Hp} {Γ : Ev} {x : V} {a : D} {k : R → Prop} {Q : VK}, Rel G C Hi σ H Γ → Rdb G.K Hi H x a → o a k →
    (∀ v r H' Hi', Ext Hi Hi' → Out G C Hi' σ H' Γ v r → k r → Q v H') → r [x] H Q) : SemN G r (o1 o) := by
  intro C Hi σ H Γ xs ds k Q c hb hw q
  cases hb with
  | nil => exact hw.elim
  | cons b1 br =>
    cases br with
    | nil => exact h c b1 hw q
    | cons b2 br => exact hw.elim
theorem semN_2 {r : List V → Hp → VK → Prop} {o : Op2} (h : ∀ {C : Cf} {Hi : Hp} {σ : St} {H : Hp} {Γ : Ev} {x y : V} {a b : D} {k : R → Prop} {Q : VK}, Rel G C Hi σ H Γ → Rdb G.K Hi H x a → Rdb G.K Hi H y b → o a b k →
    (∀ v r H' Hi', Ext Hi Hi' → Out G C Hi' σ H' Γ v r → k r → Q v H') → r [x, y] H Q) : SemN G r (o2 o) := by
  intro C Hi σ H Γ xs ds k Q c hb hw q
  cases hb with
  | nil => exact hw.elim
  | cons b1 br =>
    cases br with
    | nil => exact hw.elim
    | cons b2 br =>
      cases br with
      | nil => exact h c b1 b2 hw q
      | cons b3 br => exact hw.elim
def oLen : Op1 := fun d k => match d with
  | .list l => k (.sh (.int l.length))
  | .tuple l => k (.sh (.int l.length))
  | .str z => z.length ≤ sizeLine ∧ k (.sh (.int z.length))
  | .dict ps => k (.sh (.int ps.length))
  | _ => False
def rLenA (K : Fg) : List V → Hp → VK → Prop := fun xs H Q => (∃ x n, xs = [x] ∧ LenV K x H n ∧ Q (.int n) H) ∨ ∃ d kvs, xs = [.ref d] ∧ Rd H d (.dK kvs) ∧ Q (.int kvs.length) H
end
end VL

set_option Elab.async false
set_option linter.all false
set_option maxRecDepth 100000
namespace VL
open PySem L2

def rIntA : List V → Hp → VK → Prop := fun xs H Q => (∃ i, xs = [.int i] ∧ Q (.int i) H) ∨ ∃ k, xs = [.bl k] ∧ Q (.int (if k then 1 else 0)) H
def rMax2A : List V → Hp → VK → Prop := fun xs H Q => ∃ i j, xs = [.int i, .int j] ∧ Q (.int (if j > i then j else i)) H
def rMin2A : List V → Hp → VK → Prop := fun xs H Q => ∃ i j, xs = [.int i, .int j] ∧ Q (.int (if j < i then j else i)) H
def rListA (K : Fg) : List V → Hp → VK → Prop := fun xs H Q => ∃ p ys, xs = [.ref p] ∧ (SqL K H p ys ∨ SqT K H p ys) ∧ ∀ l, H l = none → Q (.ref l) (upd H l (.lst ys))
section
variable {X : Cx}
theorem call_lenR : CallR X (.builtin "len") (fun xs H Q => ∃ d kvs, xs = [V.ref d] ∧ Rd H d (.dK kvs) ∧ Q (.int kvs.length) H) := by
  intro pins s σ H xs us Q I r h
  obtain ⟨d, kvs, rfl, hd, q⟩ := h
  obtain ⟨u, rfl, ru⟩ := vals1 r
  cases ru
  exact d_len I hd fun t s' I' => ⟨.int kvs.length, H, I', ⟨t, rfl⟩, q⟩
theorem call_lenA : CallR X (.builtin "len") (rLenA X.K) := CallR.or call_len call_lenR
theorem call_intA : CallR X (.type "int") rIntA := call_int1
theorem call_max2A (hc : X.calm = true) : CallR X (.builtin "max") rMax2A := call_max2 hc
theorem call_min2A (hc : X.calm = true) : CallR X (.builtin "min") rMin2A := call_min2 hc
theorem call_listA : CallR X (.type "list") (rListA X.K) := call_list_of
end
section
variable {G : Gb} {C : Cf} {Hi Hi' H H' : Hp} {σ : St} {Γ : Ev} {W : WX}
theorem sem_len : SemN G (rLenA G.K) (o1 oLen) := by
  refine semN_1 ?_
  intro C Hi σ H Γ x a k Q c ha h q
  unfold oLen at h
  split at h
  · obtain ⟨p, xs, rfl, s1, r1⟩ := ha.list c.imm
    refine .inl ⟨_, xs.length, rfl, .inl ⟨xs, SqL.of s1, rfl⟩, ?_⟩
    rw [r1.length]
    exact q _ _ H Hi (Ext.refl _) (out_int c _) h
  · obtain ⟨p, xs, rfl, s1, r1⟩ := ha.tuple c.imm
    refine .inl ⟨_, xs.length, rfl, .inr ⟨xs, SqT.of s1, rfl⟩, ?_⟩
    rw [r1.length]
    exact q _ _ H Hi (Ext.refl _) (out_int c _) h
  · rename_i z
    have e := ha.str
    subst e
    exact .inl ⟨_, z.length, rfl, ⟨h.1, rfl⟩, q _ _ H Hi (Ext.refl _) (out_int c _) h.2⟩
  · obtain ⟨p, kvs, rfl, s1, r1⟩ := ha.dict c.imm
    refine .inr ⟨p, kvs, rfl, s1, ?_⟩
    rw [r1.length]
    exact q _ _ H Hi (Ext.refl _) (out_int c _) h
  · exact h.elim

def oIsB : Op2 := fun a b k => isB a fun x => isB b fun y => k (.sh (.bool (decide (x = y))))
def oNotIsB : Op2 := fun a b k => isB a fun x => isB b fun y => k (.sh (.bool (!decide (x = y))))
def tyN : D → String
  | .none => "NoneType"
  | .bool _ => "bool"
  | .int _ => "int"
  | .str _ => "str"
  | .list _ => "list"
  | .tuple _ => "tuple"
  | .dict _ => "dict"
def tyNs : List String := ["NoneType", "bool", "int", "str", "list", "tuple", "dict"]
theorem tyN_mem (d : D) : tyN d ∈ tyNs := by cases d <;> simp [tyN, tyNs]
def isT (a T : String) : Bool := decide (a = T) || (decide (T = "int") && decide (a = "bool"))
theorem ty_x {K : Fg} {x : V} {d : D} (h : Rep K H x d) : TyX K H x (.type (tyN d)) := by
  cases h with
  | non => exact .base .non
  | bl b => exact .base (.bl b)
  | int i => exact .base (.int i)
  | str z => exact .base (.str z)
  | lst h _ => exact .base (.lst h)
  | tup h _ => exact .base (.tup h)
  | dct h _ =>
    rcases h with h | ⟨o, h⟩
    · exact .base (.dK h)
    · exact .fDict h
def KitOk (T : String) : Prop := ∀ a ∈ tyNs, kitB a T = some (isT a T)
theorem kit_int : KitOk "int" := by unfold KitOk tyNs; decide +kernel
theorem kit_bool : KitOk "bool" := by unfold KitOk tyNs; decide +kernel
theorem kit_str : KitOk "str" := by unfold KitOk tyNs; decide +kernel
theorem kit_list : KitOk "list" := by unfold KitOk tyNs; decide +kernel
theorem kit_tuple : KitOk "tuple" := by unfold KitOk tyNs; decide +kernel
def wIsi (T : String) (w : WE) : WE := fun Γ Q X => w Γ (fun r Γ1 => rdW r Γ1 fun d => Q (.sh (.bool (isT (tyN d) T))) Γ1) X
theorem sim_isi {t : TE} {w : WE} {T : String} (hT : KitOk T) (h : SimE G W t w) : SimE G W (tCB (rIsi G.K) (tCons t (tCons (tC (.ty T)) tNil))) (wIsi T w) := by
  intro C Hi σ H Γ Q Qd Xd c hw hQ hX
  refine h C Hi σ H Γ _ _ Xd c hw (fun v r H1 Hi1 Γ1 e1 o1 q => ?_) hX
  obtain ⟨Hi2, e2, c2, h2⟩ := o1.hold
  obtain ⟨d, b1, q⟩ := h2.read c2 q
  exact ⟨v, .ty T, _, _, _, rfl, .ty T, ty_x (b1.rep c2.imm), kit_ty (hT _ (tyN_mem d)), hQ _ _ H1 Hi2 Γ1 (e1.trans e2) (out_bl c2 _) q⟩
def wIsi2 (T U : String) (w : WE) : WE := fun Γ Q X => w Γ (fun r Γ1 => rdW r Γ1 fun d => Q (.sh (.bool (isT (tyN d) T || isT (tyN d) U))) Γ1) X
theorem sim_isi2 {t : TE} {w : WE} {T U : String} (hT : KitOk T) (hU : KitOk U) (h : SimE G W t w) : SimE G W (tCB (rIsiT G.K) (tCons t (tCons (tTup (tCons (tC (.ty T)) (tCons (tC (.ty U)) tNil))) tNil))) (wIsi2 T U w) := by
  intro C Hi σ H Γ Q Qd Xd c hw hQ hX
  refine h C Hi σ H Γ _ _ Xd c hw (fun v r H1 Hi1 Γ1 e1 o1 q => ?_) hX
  obtain ⟨Hi2, e2, c2, h2⟩ := o1.hold
  obtain ⟨d, b1, q⟩ := h2.read c2 q
  refine ⟨le_line (show 2 ≤ 1000 by decide), fun p hp => ⟨v, p, _, _, _, isT (tyN d) T || isT (tyN d) U, rfl, upd_same, .cons (.ty T) (.cons (.ty U) .nil), ty_x ((b1.rep c2.imm).mono (Ext.new hp)), ?_, ?_⟩⟩
  · refine kitAny_cons (kit_ty (hT _ (tyN_mem d))) (fun e => ?_) (fun e => by rw [e]; rfl)
    rw [e, Bool.false_or]
    exact kitAny_cons (kit_ty (hU _ (tyN_mem d))) (fun e => by rw [e]; exact kitAny_nil) (fun e => by rw [e])
  · exact hQ _ _ _ Hi2 Γ1 (e1.trans e2) (out_bl (c2.grow (Ext.new hp) (Ext.refl _) (c2.imm.trans (Ext.new hp)) fun _ _ z => .inl z) _) q

theorem reps_bools {K : Fg} : ∀ {bs : List Bool} {xs : List V}, Reps K Hi xs (bs.map .bool) → xs = bs.map .bl
  | [], _, h => by cases h; rfl
  | b :: bs, _, h => by
    cases h with
    | cons h r => cases h; rw [reps_bools r]; rfl
theorem reps_strs {K : Fg} : ∀ {bs : List Str} {xs : List V}, Reps K Hi xs (bs.map .str) → xs = bs.map .str
  | [], _, h => by cases h; rfl
  | b :: bs, _, h => by
    cases h with
    | cons h r => cases h; rw [reps_strs r]; rfl
def oAll : Op1 := fun d k => isL d fun l => ∃ bs : List Bool, l = bs.map .bool ∧ k (.sh (.bool (bs.all id)))
def oAny : Op1 := fun d k => isL d fun l => ∃ bs : List Bool, l = bs.map .bool ∧ k (.sh (.bool (bs.any id)))
theorem sem_all : SemN G (rAll G.K) (o1 oAll) := by
  refine semN_1 ?_
  intro C Hi σ H Γ x a k Q c ha h q
  obtain ⟨l, rfl, bs, rfl, h1⟩ := isL_inv h
  obtain ⟨p, xs, rfl, s1, r1⟩ := ha.list c.imm
  exact ⟨p, bs, rfl, SqL.of (by rw [s1, reps_bools r1]), q _ _ H Hi (Ext.refl _) (out_bl c _) h1⟩
theorem sem_any : SemN G (rAny G.K) (o1 oAny) := by
  refine semN_1 ?_
  intro C Hi σ H Γ x a k Q c ha h q
  obtain ⟨l, rfl, bs, rfl, h1⟩ := isL_inv h
  obtain ⟨p, xs, rfl, s1, r1⟩ := ha.list c.imm
  exact ⟨p, bs, rfl, SqL.of (by rw [s1, reps_bools r1]), q _ _ H Hi (Ext.refl _) (out_bl c _) h1⟩
def oInt : Op1 := fun d k => match d with
  | .int i => k (.sh (.int i))
  | .bool b => k (.sh (.int (if b then 1 else 0)))
  | _ => False
theorem sem_int : SemN G rIntA (o1 oInt) := by
  refine semN_1 ?_
  intro C Hi σ H Γ x a k Q c ha h q
  unfold oInt at h
  split at h
  · exact .inl ⟨_, by rw [ha.int], q _ _ H Hi (Ext.refl _) (out_int c _) h⟩
  · exact .inr ⟨_, by rw [ha.bl], q _ _ H Hi (Ext.refl _) (out_int c _) h⟩
  · exact h.elim
def oMax : Op2 := fun a b k => isI a fun i => isI b fun j => k (.sh (.int (if j > i then j else i)))
def oMin : Op2 := fun a b k => isI a fun i => isI b fun j => k (.sh (.int (if j < i then j else i)))
theorem sem_max : SemN G rMax2A (o2 oMax) := by
  refine semN_2 ?_
  intro C Hi σ H Γ x y a b k Q c ha hb h q
  obtain ⟨i, rfl, h1⟩ := isI_inv h
  obtain ⟨j, rfl, h2⟩ := isI_inv h1
  exact ⟨i, j, by rw [ha.int, hb.int], q _ _ H Hi (Ext.refl _) (out_int c _) h2⟩
theorem sem_min : SemN G rMin2A (o2 oMin) := by
  refine semN_2 ?_
  intro C Hi σ H Γ x y a b k Q c ha hb h q
  obtain ⟨i, rfl, h1⟩ := isI_inv h
  obtain ⟨j, rfl, h2⟩ := isI_inv h1
  exact ⟨i, j, by rw [ha.int, hb.int], q _ _ H Hi (Ext.refl _) (out_int c _) h2⟩
def oList : Op1 := fun d k => match d with
  | .list l => k (.ow (.list l))
  | .tuple l => k (.ow (.list l))
  | _ => False
theorem sem_list : SemN G (rListA G.K) (o1 oList) := by
  refine semN_1 ?_
  intro C Hi σ H Γ x a k Q c ha h q
  unfold oList at h
  split at h
  · obtain ⟨p, xs, rfl, s1, r1⟩ := ha.list c.imm
    exact ⟨p, xs, rfl, .inl (SqL.of s1), fun l hl => q _ _ _ Hi (Ext.refl _) (Out.newL c hl r1) h⟩
  · obtain ⟨p, xs, rfl, s1, r1⟩ := ha.tuple c.imm
    exact ⟨p, xs, rfl, .inr (SqT.of s1), fun l hl => q _ _ _ Hi (Ext.refl _) (Out.newL c hl r1) h⟩
  · exact h.elim
def isD (d : D) (k : List (D × D) → Prop) : Prop := match d with
  | .dict ps => k ps
  | _ => False
theorem isD_inv {d : D} {k : List (D × D) → Prop} (h : isD d k) : ∃ ps, d = .dict ps ∧ k ps := by
  unfold isD at h; split at h
  · exact ⟨_, rfl, h⟩
  · exact h.elim
theorem Rel.write {i : Nat} {d d' : D} {o : HO} {p : Addr} (c : Rel G C Hi σ H Γ) (h : Γ[i]? = some (.ow d)) (hp : σ[i]? = some (some (.ref p))) (ow : Own G.K Hi (upd H p o) p d') :
    Rel G C Hi σ (upd H p o) (Γ.set i (.ow d')) := by
  obtain ⟨fp, c⟩ := c
  obtain ⟨x, hx, p', hf, e, w, h0⟩ := c.sl i _ h
  rw [e, hp] at hx
  have ep : p' = p := by injection hx with h1; injection h1 with h1; injection h1 with h1; exact h1.symm
  subst ep
  have hi : i < Γ.length := (List.getElem?_eq_some_iff.mp h).1
  have hin : Hi p' = none := c.av i p' hi (by rw [hf]; simp)
  have hs : σ.set i (some (.ref p')) = σ := by
    obtain ⟨hl, e1⟩ := List.getElem?_eq_some_iff.mp hp
    rw [← e1]; exact List.set_getElem_self hl
  have st := c.step (H' := upd H p' o) (Hi' := Hi) (x := some (.ref p')) (l := [p']) (s := .ow d') hi (Ext.refl _)
    (fun a u hu hn => by rw [upd_ne (fun z => hn (by rw [hf, z]; simp))]; exact hu)
    (fun a ha => by
      rw [hf] at ha
      have : a = p' := by simpa using ha
      rw [this, upd_same]; simp)
    (fun a u hu => by
      have : a ≠ p' := fun z => by rw [z, hin] at hu; cases hu
      rw [upd_ne this]; exact c.imm a u hu)
    (fun _ _ z => .inl z) ⟨p', rfl, rfl, ow, h0⟩
    (fun a ha => by
      have : a = p' := by simpa using ha
      subst this
      exact ⟨hin, fun j hj hne hm => hne (c.dj j i a hj hi hm (by rw [hf]; simp))⟩)
    (fun j a hj hne ha => c.av j a hj ha)
  rw [hs] at st
  exact ⟨_, st⟩
theorem Rel.writeIo {i : Nat} {d d' : D} {o : HO} {p : Addr} (c : Rel G C Hi σ H Γ) (h : Γ[i]? = some (.io d)) (hp : σ[i]? = some (some (.ref p))) (ow : Own G.K Hi (upd H p o) p d') :
    Rel G C Hi σ (upd H p o) (Γ.set i (.io d')) := by
  obtain ⟨fp, c⟩ := c
  obtain ⟨x, hx, p', hf, e, w, h0⟩ := c.sl i _ h
  rw [e, hp] at hx
  have ep : p' = p := by injection hx with h1; injection h1 with h1; injection h1 with h1; exact h1.symm
  subst ep
  have hi : i < Γ.length := (List.getElem?_eq_some_iff.mp h).1
  have hin : Hi p' = none := c.av i p' hi (by rw [hf]; simp)
  have hs : σ.set i (some (.ref p')) = σ := by
    obtain ⟨hl, e1⟩ := List.getElem?_eq_some_iff.mp hp
    rw [← e1]; exact List.set_getElem_self hl
  have st := c.step (H' := upd H p' o) (Hi' := Hi) (x := some (.ref p')) (l := [p']) (s := .io d') hi (Ext.refl _)
    (fun a u hu hn => by rw [upd_ne (fun z => hn (by rw [hf, z]; simp))]; exact hu)
    (fun a ha => by
      rw [hf] at ha
      have : a = p' := by simpa using ha
      rw [this, upd_same]; simp)
    (fun a u hu => by
      have : a ≠ p' := fun z => by rw [z, hin] at hu; cases hu
      rw [upd_ne this]; exact c.imm a u hu)
    (fun _ _ z => .inl z) ⟨p', rfl, rfl, ow, h0⟩
    (fun a ha => by
      have : a = p' := by simpa using ha
      subst this
      exact ⟨hin, fun j hj hne hm => hne (c.dj j i a hj hi hm (by rw [hf]; simp))⟩)
    (fun j a hj hne ha => c.av j a hj ha)
  rw [hs] at st
  exact ⟨_, st⟩
def owW (i : Nat) (Γ : Ev) (k : D → (D → Ev) → Prop) : Prop := match Γ[i]? with
  | some (.ow d) => k d fun d' => Γ.set i (.ow d')
  | some (.io d) => k d fun d' => Γ.set i (.io d')
  | _ => False
theorem Rel.owned {i : Nat} {k : D → (D → Ev) → Prop} (c : Rel G C Hi σ H Γ) (h : owW i Γ k) : ∃ d p f, σ[i]? = some (some (.ref p)) ∧ Own G.K Hi H p d ∧ k d f ∧
    ∀ d' o, Own G.K Hi (upd H p o) p d' → Rel G C Hi σ (upd H p o) (f d') := by
  unfold owW at h
  split at h
  · rename_i d e
    obtain ⟨p, h1, h2⟩ := c.at_ow e
    exact ⟨d, p, _, h1, h2, h, fun d' o ow => c.write e h1 ow⟩
  · rename_i d e
    obtain ⟨p, h1, h2⟩ := c.at_io e
    exact ⟨d, p, _, h1, h2, h, fun d' o ow => c.writeIo e h1 ow⟩
  · exact h.elim
abbrev OpM := List D → List D → (List D → D → Prop) → Prop
def SemM (G : Gb) (r : V → List V → Hp → VK → Prop) (f : OpM) : Prop := ∀ {Hi H : Hp} {p : Addr} {vs xs : List V} {l ds : List D} {k : List D → D → Prop} {Q : VK}, H p = some (.lst vs) → Reps G.K Hi vs l → Reps G.K Hi xs ds → f l ds k →
  (∀ v d vs' l', Reps G.K Hi vs' l' → Rep G.K Hi v d → k l' d → Q v (upd H p (.lst vs'))) → r (.ref p) xs H Q
def wMut (i : Nat) (f : OpM) (wa : WA) : WE := fun Γ Q X => owW i Γ fun d _ => isL d fun _ => wa Γ (fun rs Γ1 => frAll rs Γ1 fun ds Γ2 => owW i Γ2 fun d f' => isL d fun l => f l ds fun l' r => Q (.sh r) (f' (.list l'))) X
theorem sim_mut {r : V → List V → Hp → VK → Prop} {f : OpM} {ta : TA} {wa : WA} (i : Nat) (hr : SemM G r f) (ha : SimA G W ta wa) : SimE G W (tBM G.K "list" r (tVar i) ta) (wMut i f wa) := by
  intro C Hi σ H Γ Q Qd Xd c hw hQ hX
  obtain ⟨d0, p, _, hp, ow0, hw, _⟩ := c.owned hw
  obtain ⟨l0, rfl, hw⟩ := isL_inv hw
  cases ow0 with
  | lst hl0 _ =>
    refine ⟨.ref p, hp, .inl ⟨rfl, _, SqL.of hl0⟩, ha C Hi σ H Γ _ _ Xd c hw (fun vs rs H1 Hi1 Γ1 e1 c1 h1 q1 => ?_) hX⟩
    obtain ⟨ds, Hi2, Γ2, e2, c2, r2, q2⟩ := h1.share (Ext.refl _) c1 q1
    obtain ⟨d, p', f', hp', ow, q3, put⟩ := c2.owned q2
    rw [hp] at hp'; cases hp'
    obtain ⟨l, rfl, q3⟩ := isL_inv q3
    cases ow with
    | lst hl rl =>
      refine hr hl rl r2 q3 fun v d vs' l' r' rv q4 => hQ v (.sh d) _ Hi2 _ (e1.trans e2) ⟨put _ _ (.lst upd_same r'), rv⟩ q4
def wMut0 (i : Nat) (f : OpM) : WE := fun Γ Q X => owW i Γ fun d f' => isL d fun l => f l [] fun l' r => Q (.sh r) (f' (.list l'))
def fAppend : OpM := fun l ds k => match ds with
  | [x] => l.length < sizeLine ∧ k (l ++ [x]) .none
  | _ => False
theorem sem_append : SemM G rAppend fAppend := by
  intro Hi H p vs xs l ds k Q h r ra hw q
  cases ra with
  | nil => exact hw.elim
  | cons r1 rr =>
    cases rr with
    | nil => exact ⟨p, vs, _, rfl, rfl, h, by rw [r.length]; exact hw.1, q _ _ _ _ (r.append (.one r1)) .non hw.2⟩
    | cons _ _ => exact hw.elim
def fPop : OpM := fun l ds k => match ds with
  | [] => match l.getLast? with
    | some x => k l.dropLast x
    | none => False
  | [.int i] => match ixN l.length i with
    | some j => match l[j]? with
      | some x => l.length < 2 ^ 62 ∧ k (l.eraseIdx j) x
      | none => False
    | none => False
  | _ => False
theorem sem_pop : SemM G (fun x vs H Q => rPop x vs H Q ∨ rPopAt x vs H Q) fPop := by
  intro Hi H p vs xs l ds k Q h r ra hw q
  unfold fPop at hw
  split at hw
  · cases ra
    split at hw
    · rename_i x e
      rw [List.getLast?_eq_getElem?] at e
      obtain ⟨v, h1, h2⟩ := r.get e
      refine .inl ⟨p, vs, v, rfl, rfl, h, by rw [r.length]; exact h1, q _ _ _ _ r.dropLast h2 hw⟩
    · exact hw.elim
  · rename_i i
    cases ra with
    | cons r1 rr =>
      cases rr
      cases r1
      split at hw
      · rename_i j ej
        split at hw
        · rename_i x e
          obtain ⟨v, h1, h2⟩ := r.get e
          obtain ⟨s1, s2, s3, s4⟩ := ixN_seq ej
          have := hw.1
          refine .inr ⟨p, vs, i, j, v, rfl, rfl, h, by omega, by omega, by rw [r.length]; exact s1, h1, q _ _ _ _ (r.eraseIdx j) h2 hw.2⟩
        · exact hw.elim
      · exact hw.elim
  · exact hw.elim
end
end VL

set_option Elab.async false
set_option linter.all false
set_option maxRecDepth 100000
namespace VL
open PySem L2

section
variable {G : Gb} {C : Cf} {Hi Hi' H H' : Hp} {σ : St} {Γ : Ev} {W : WX}
def wDict0 : WE := fun Γ Q _ => Q (.ow (.dict [])) Γ
theorem sim_dict0 : SimE G W tDNewK wDict0 := fun C Hi σ H Γ Q Qd Xd c hw hQ hX p hp => hQ _ _ _ Hi Γ (Ext.refl _) (Out.new c hp (.dct upd_same .nil)) hw
def wDGet1 (wd wk : WE) : WE := fun Γ Q X => wd Γ (fun r Γ1 => rdW r Γ1 fun d => isD d fun _ => wk Γ1 (fun rk Γ2 => rdW r Γ2 fun d => isD d fun ps => rdW rk Γ2 fun key => isK key (Q (.sh ((dget ps key).getD .none)) Γ2)) X) X
theorem RepKV.getD {K : Fg} {kvs : List (Key × V)} {ps : List (D × D)} {k : Key} {v : V} {d : D} (r : RepKV K Hi kvs ps) (h : Rep K Hi v d) : Rep K Hi ((valV kvs k).getD v) ((dget ps (kD k)).getD d) := by
  cases e : dget ps (kD k) with
  | none => rw [r.none.mp e]; exact h
  | some d' => obtain ⟨v', h1, h2⟩ := r.get e; rw [h1]; exact h2
def wDGet2 (wd wk wx : WE) : WE := fun Γ Q X => wd Γ (fun r Γ1 => rdW r Γ1 fun d => isD d fun _ => wk Γ1 (fun rk Γ2 => wx Γ2 (fun rx Γ3 => frW rx Γ3 fun dx Γ4 =>
  rdW r Γ4 fun d => isD d fun ps => rdW rk Γ4 fun key => isK key (Q (.sh ((dget ps key).getD dx)) Γ4)) X) X) X
def wDPut (i : Nat) (wk wv : WE) : WS := fun Γ D X => wv Γ (fun rv Γ1 => owW i Γ1 fun _ _ => wk Γ1 (fun rk Γ2 => frW rv Γ2 fun dv Γ3 => rdW rk Γ3 fun key => isK key (owW i Γ3 fun d f => isD d fun ps => ps.length < sizeLine ∧ D.nx (f (.dict (dput ps key dv))))) X) X
theorem sim_dput {ty tv : TE} {wk wv : WE} (i : Nat) (hk : SimE G W ty wk) (hv : SimE G W tv wv) : SimS G W (sDPut (tVar i) ty tv) (wDPut i wk wv) := by
  intro C Hi σ H Γ Dn Dd Xd c hw h1 _ _ _ h5
  refine hv C Hi σ H Γ _ _ Xd c hw (fun v1 r1 H1 Hi1 Γ1 e1 o1 q1 => ?_) fun x c d => h5 x c d σ
  obtain ⟨Hi2, e2, c2, h2⟩ := o1.hold
  have f2 := e1.trans e2
  obtain ⟨_, p, _, hp, _, q1, _⟩ := c2.owned q1
  refine ⟨_, hp, hk C Hi2 σ H1 Γ1 _ _ Xd c2 q1 (fun v3 r3 H3 Hi3 Γ3 e3 o3 q3 => ?_) fun x c d H' Hi' Γ' e' => h5 x c d σ H' Hi' Γ' (f2.trans e')⟩
  obtain ⟨Hi4, e4, c4, h4⟩ := o3.hold
  obtain ⟨dv, Hi5, Γ5, e5, c5, rv, q5⟩ := (h2.mono (e3.trans e4)).share c4 q3
  obtain ⟨dk, bk, q6⟩ := (h4.mono e5).read c5 q5
  obtain ⟨⟨k, rfl⟩, q6'⟩ := isK_inv q6
  obtain ⟨d, p', f', hp', ow, q7, put⟩ := c5.owned q6'
  rw [hp] at hp'; cases hp'
  obtain ⟨ps, rfl, hl, q8⟩ := isD_inv q7
  cases ow with
  | dct hd rd =>
    refine ⟨p, _, rfl, by rw [bk.key]; exact DPut.k hd (by rw [rd.length]; exact hl), ?_⟩
    exact h1 σ _ Hi5 _ (((f2.trans e3).trans e4).trans e5) (put _ _ (.dct upd_same (rd.put rv))) q8
def wLPut (i : Nat) (wk wv : WE) : WS := fun Γ D X => wv Γ (fun rv Γ1 => owW i Γ1 fun _ _ => wk Γ1 (fun rk Γ2 => frW rv Γ2 fun dv Γ3 => rdW rk Γ3 fun key => isI key fun n => owW i Γ3 fun d f => isL d fun l =>
  match ixN l.length n with
  | some j => D.nx (f (.list (l.set j dv)))
  | none => False) X) X
theorem sim_lput {ty tv : TE} {wk wv : WE} (i : Nat) (hk : SimE G W ty wk) (hv : SimE G W tv wv) : SimS G W (tAsg tv (gSub (tVar i) ty rSetL)) (wLPut i wk wv) := by
  intro C Hi σ H Γ Dn Dd Xd c hw h1 _ _ _ h5
  refine hv C Hi σ H Γ _ _ Xd c hw (fun v1 r1 H1 Hi1 Γ1 e1 o1 q1 => ?_) fun x c d => h5 x c d σ
  obtain ⟨Hi2, e2, c2, h2⟩ := o1.hold
  have f2 := e1.trans e2
  obtain ⟨_, p, _, hp, _, q1, _⟩ := c2.owned q1
  refine ⟨_, hp, hk C Hi2 σ H1 Γ1 _ _ Xd c2 q1 (fun v3 r3 H3 Hi3 Γ3 e3 o3 q3 => ?_) fun x c d H' Hi' Γ' e' => h5 x c d σ H' Hi' Γ' (f2.trans e')⟩
  obtain ⟨Hi4, e4, c4, h4⟩ := o3.hold
  obtain ⟨dv, Hi5, Γ5, e5, c5, rv, q5⟩ := (h2.mono (e3.trans e4)).share c4 q3
  obtain ⟨dk, bk, q6⟩ := (h4.mono e5).read c5 q5
  obtain ⟨n, rfl, q6'⟩ := isI_inv q6
  obtain ⟨d, p', f', hp', ow, q7, put⟩ := c5.owned q6'
  rw [hp] at hp'; cases hp'
  obtain ⟨l, rfl, q8⟩ := isL_inv q7
  cases ow with
  | lst hl rl =>
    split at q8
    · rename_i j ej
      refine ⟨p, _, n, j, rfl, bk.int, hl, by rw [rl.length]; exact ej, ?_⟩
      exact h1 σ _ Hi5 _ (((f2.trans e3).trans e4).trans e5) (put _ _ (.lst upd_same (rl.set rv j))) q8
    · exact q8.elim
def wExt (i : Nat) (w : WE) : WE := fun Γ Q X => owW i Γ fun d _ => isL d fun _ => w Γ (fun r Γ1 => frW r Γ1 fun d Γ2 => isL d fun ys => owW i Γ2 fun d f => isL d fun l => l.length + ys.length ≤ sizeLine ∧ Q (.sh .none) (f (.list (l ++ ys)))) X
def slW (r : R) (Γ : Ev) (k : Sl → Ev → Prop) : Prop := match r with
  | .sh d => k (.sh d) Γ
  | .ow d => k (.ow d) Γ
  | .vr i => frW (.vr i) Γ fun d Γ1 => k (.sh d) Γ1
  | .op t d => 10 ≤ t ∧ k (.op t d) Γ
abbrev WSl := Ev → (List Sl → Ev → Prop) → XW → Prop
def wsNil : WSl := fun Γ Q _ => Q [] Γ
def wsCons (w : WE) (ws : WSl) : WSl := fun Γ Q X => w Γ (fun r Γ1 => slW r Γ1 fun s Γ2 => ws Γ2 (fun ss Γ3 => Q (s :: ss) Γ3) X) X
theorem Out.slot {v : V} {r : R} {k : Sl → Ev → Prop} (o : Out G C Hi σ H Γ v r) (q : slW r Γ k) :
    ∃ Hi' Γ' s, Ext Hi Hi' ∧ Γ'.length = σ.length ∧ Rel G C Hi' (σ ++ [some v]) H (Γ' ++ [s]) ∧ ((∃ d, s = .sh d) ∨ (∃ d, s = .ow d) ∨ ∃ t d, 10 ≤ t ∧ s = .op t d) ∧ k s Γ' := by
  cases r with
  | sh d => exact ⟨Hi, Γ, .sh d, Ext.refl _, o.1.len, o.1.push_sh o.2, .inl ⟨d, rfl⟩, q⟩
  | ow d => exact ⟨Hi, Γ, .ow d, Ext.refl _, o.1, o.2, .inr (.inl ⟨d, rfl⟩), q⟩
  | op t d => exact ⟨Hi, Γ, .op t d, Ext.refl _, o.1, o.2, .inr (.inr ⟨t, d, q.1, rfl⟩), q.2⟩
  | vr i =>
    obtain ⟨d, Hi', Γ', e, c, r, q⟩ := o.share (k := fun d Γ1 => k (.sh d) Γ1) q
    exact ⟨Hi', Γ', .sh d, e, c.len, c.push_sh r, .inl ⟨d, rfl⟩, q⟩
def SimSl (G : Gb) (W : WX) (t : TA) (w : WSl) : Prop := ∀ (C : Cf) (Hi : Hp) (σ : St) (H : Hp) (Γ : Ev) (Q : List V → Hp → Prop) (Qd : List Sl → Ev → Prop) (Xd : XW), Rel G C Hi σ H Γ → w Γ Qd Xd →
  (∀ vs ss H' Hi' Γ', Ext Hi Hi' → Γ'.length = σ.length → Rel G C Hi' (σ ++ vs.reverse.map some) H' (Γ' ++ ss.reverse) → Plain ss → vs.length = ss.length → Qd ss Γ' → Q vs H') →
  (∀ x c d H' Hi' Γ', Ext Hi Hi' → Rel G C Hi' σ H' Γ' → G.xr x c d Hi' → Xd x Γ' → W c d σ H') → t σ H Q
theorem sims_nil : SimSl G W tNil wsNil := fun C Hi σ H Γ Q Qd Xd c hw hQ hX => hQ [] [] H Hi Γ (Ext.refl _) c.len (by simpa using c) (fun s h => nomatch h) rfl hw
theorem sims_cons {te : TE} {ta : TA} {we : WE} {ws : WSl} (he : SimE G W te we) (ha : SimSl G W ta ws) : SimSl G W (tCons te ta) (wsCons we ws) := by
  intro C Hi σ H Γ Q Qd Xd c hw hQ hX
  refine he C Hi σ H Γ _ _ Xd c hw (fun v1 r1 H1 Hi1 Γ1 e1 o1 q1 => ?_) hX
  obtain ⟨Hi2, Γ2, s, e2, hl, c2, pl, q2⟩ := o1.slot q1
  have f2 := e1.trans e2
  obtain ⟨fp, c2⟩ := c2
  have pl1 : Plain [s] := fun s' h => by
    have : s' = s := by simpa using h
    rw [this]; exact pl
  refine ha _ Hi2 σ H1 Γ2 _ _ Xd ⟨_, c2.aside hl⟩ q2 (fun vs ss H3 Hi3 Γ3 e3 hl3 c3 pl3 hle q3 => ?_) fun x c d H' Hi' Γ' e' c' => ?_
  · obtain ⟨fp3, c3⟩ := c3
    have c4 := c2.back hl pl1 e3 c3
    refine hQ (v1 :: vs) (s :: ss) H3 Hi3 Γ3 (f2.trans e3) hl3 ?_ ?_ (by simp [hle]) q3
    · rw [List.reverse_cons, List.reverse_cons, List.map_append, ← List.append_assoc, ← List.append_assoc]
      exact c4
    · intro s' h
      rcases List.mem_cons.mp h with rfl | h
      · exact pl
      · exact pl3 s' h
  · obtain ⟨fp', c'⟩ := c'
    have c4 := c2.back hl pl1 e' c'
    exact hX x c d H' Hi' Γ' (f2.trans e') (c4.trunc c'.len)
theorem Rel.moves {n : Nat} : ∀ (is : List Nat) (vs : List V) (ss : List Sl) {σ : St} {Γ : Ev}, is.length = vs.length → vs.length = ss.length → Γ.length = σ.length → (∀ i ∈ is, i < Γ.length) →
    Rel G C Hi (σ ++ vs.reverse.map some) H (Γ ++ ss.reverse) → Rel G C Hi ((is.zip vs).foldl (fun σ p => σ.set p.1 (some p.2)) σ) H ((is.zip ss).foldl (fun Γ p => Γ.set p.1 p.2) Γ)
  | [], [], [], σ, Γ, _, _, _, _, c => by simpa using c
  | i :: is, v :: vs, s :: ss, σ, Γ, h1, h2, hl, hi, c => by
    rw [List.reverse_cons, List.reverse_cons, List.map_append, ← List.append_assoc, ← List.append_assoc] at c
    have h2' : vs.length = ss.length := by simpa using h2
    have hil : i < Γ.length := hi i List.mem_cons_self
    have c1 := Rel.move (i := i) (x := some v) c (by simp; omega) (by simp; omega)
    rw [List.set_append_left i _ (by omega), List.set_append_left i _ hil] at c1
    exact Rel.moves (n := n) is vs ss (by simpa using h1) h2' (by simpa using hl) (fun j hj => by rw [List.length_set]; exact hi j (List.mem_cons_of_mem _ hj)) c1
  | [], _ :: _, _, _, _, h1, _, _, _, _ => by simp at h1
  | _ :: _, [], _, _, _, h1, _, _, _, _ => by simp at h1
  | [], [], _ :: _, _, _, _, h2, _, _, _ => by simp at h2
  | _ :: _, _ :: _, [], _, _, _, h2, _, _, _ => by simp at h2
theorem two_of {α : Type} : ∀ {l : List α}, l.length = 2 → ∃ a b, l = [a, b]
  | [a, b], _ => ⟨a, b, rfl⟩
  | [], h => by simp at h
  | [_], h => by simp at h
  | _ :: _ :: _ :: _, h => by simp at h
theorem three_of {α : Type} : ∀ {l : List α}, l.length = 3 → ∃ a b c, l = [a, b, c]
  | [a, b, c], _ => ⟨a, b, c, rfl⟩
  | [], h => by simp at h
  | [_], h => by simp at h
  | [_, _], h => by simp at h
  | _ :: _ :: _ :: _ :: _, h => by simp at h
def wPar (is : List Nat) (ws : WSl) : WS := fun Γ D X => ws Γ (fun ss Γ1 => ss.length = is.length ∧ (∀ i ∈ is, i < Γ1.length) ∧ D.nx ((is.zip ss).foldl (fun Γ p => Γ.set p.1 p.2) Γ1)) X
theorem sim_par {i j : Nat} {ta : TA} {ws : WSl} (h : SimSl G W ta ws) : SimS G W (tPar i j ta) (wPar [i, j] ws) := by
  intro C Hi σ H Γ Dn Dd Xd c hw h1 _ _ _ h5
  refine h C Hi σ H Γ _ _ Xd c hw (fun vs ss H1 Hi1 Γ1 e1 hl c1 pl hle ⟨q1, q2, q3⟩ => ?_) fun x c d => h5 x c d σ
  have m := Rel.moves (n := 0) [i, j] vs ss (by rw [hle, q1]) hle hl q2 c1
  obtain ⟨v1, v2, rfl⟩ := two_of (show vs.length = 2 by rw [hle, q1]; rfl)
  obtain ⟨s1, s2, rfl⟩ := two_of (show ss.length = 2 by rw [q1]; rfl)
  exact ⟨v1, v2, rfl, h1 _ H1 Hi1 _ e1 m q3⟩
theorem sim_par3 {i j l : Nat} {ta : TA} {ws : WSl} (h : SimSl G W ta ws) : SimS G W (tPar3 i j l ta) (wPar [i, j, l] ws) := by
  intro C Hi σ H Γ Dn Dd Xd c hw h1 _ _ _ h5
  refine h C Hi σ H Γ _ _ Xd c hw (fun vs ss H1 Hi1 Γ1 e1 hl c1 pl hle ⟨q1, q2, q3⟩ => ?_) fun x c d => h5 x c d σ
  have m := Rel.moves (n := 0) [i, j, l] vs ss (by rw [hle, q1]) hle hl q2 c1
  obtain ⟨v1, v2, v3, rfl⟩ := three_of (show vs.length = 3 by rw [hle, q1]; rfl)
  obtain ⟨s1, s2, s3, rfl⟩ := three_of (show ss.length = 3 by rw [q1]; rfl)
  exact ⟨v1, v2, v3, rfl, h1 _ H1 Hi1 _ e1 m q3⟩
def gNames : List Nat → TGs
  | [] => gNil
  | i :: is => gCons (gName i) (gNames is)
theorem gNames_run {H : Hp} {Q : St → Hp → Prop} : ∀ (is : List Nat) (vs : List V) (σ : St), is.length = vs.length → Q ((is.zip vs).foldl (fun σ p => σ.set p.1 (some p.2)) σ) H → gNames is vs σ H Q
  | [], [], σ, _, h => ⟨rfl, h⟩
  | i :: is, v :: vs, σ, hl, h => ⟨v, vs, rfl, gNames_run is vs _ (by simpa using hl) h⟩
  | [], _ :: _, _, hl, _ => by simp at hl
  | _ :: _, [], _, hl, _ => by simp at hl
theorem sim_parT {is : List Nat} {n : Nat} {ta : TA} {ws : WSl} (hn : is.length = n) (hs : n ≤ 1000) (h : SimSl G W ta ws) : SimS G W (tAsg (tTup ta) (gTup G.K n (gNames is))) (wPar is ws) := by
  intro C Hi σ H Γ Dn Dd Xd c hw h1 _ _ _ h5
  refine h C Hi σ H Γ _ _ Xd c hw (fun vs ss H1 Hi1 Γ1 e1 hl c1 pl hle ⟨q1, q2, q3⟩ => ?_) fun x c d => h5 x c d σ
  have hv : vs.length = n := by rw [hle, q1, hn]
  refine ⟨le_line (by rw [hv]; exact hs), fun p hp => ⟨p, vs, rfl, SqT.of upd_same, hv, ?_⟩⟩
  refine gNames_run is vs σ (by rw [hv, hn]) (h1 _ _ Hi1 _ e1 ?_ q3)
  have m := Rel.moves (n := 0) is vs ss (by rw [hle, q1]) hle hl q2 c1
  exact m.grow (Ext.new hp) (Ext.refl _) (m.imm.trans (Ext.new hp)) fun _ _ z => .inl z
end
end VL

set_option Elab.async false
set_option linter.all false
set_option maxRecDepth 100000
namespace VL
open PySem L2

section
variable {G : Gb} {C : Cf} {Hi Hi' Hi1 H H' H1 : Hp} {σ τ : St} {Γ Γ1 Γ2 Δ : Ev} {W : WX}
def wipeE (Γ : Ev) : List Nat → Ev
  | [] => Γ
  | v :: vs => (wipeE Γ vs).set v .no
def restE (Γ0 : Ev) : Ev → List Nat → Ev
  | Γ, [] => Γ
  | Γ, v :: vs => restE Γ0 (Γ.set v ((Γ0[v]?).getD .no)) vs
def okW (Γ : Ev) : List Nat → Prop
  | [] => True
  | v :: vs => (match Γ[v]? with
    | some .no => True
    | some (.sh _) => True
    | _ => False) ∧ okW Γ vs
theorem wipeE_length (Γ : Ev) : ∀ vs, (wipeE Γ vs).length = Γ.length
  | [] => rfl
  | v :: vs => by unfold wipeE; rw [List.length_set, wipeE_length Γ vs]
theorem restE_length (Γ0 : Ev) : ∀ (vs : List Nat) (Γ : Ev), (restE Γ0 Γ vs).length = Γ.length
  | [], _ => rfl
  | v :: vs, Γ => by unfold restE; rw [restE_length Γ0 vs, List.length_set]
theorem okW_lt : ∀ {vs : List Nat}, okW Γ vs → ∀ v ∈ vs, v < Γ.length ∧ ((Γ[v]? = some .no) ∨ ∃ d, Γ[v]? = some (.sh d))
  | [], _, v, h => nomatch h
  | w :: vs, ⟨h1, h2⟩, v, h => by
    rcases List.mem_cons.mp h with rfl | h
    · split at h1
      · rename_i e
        exact ⟨(List.getElem?_eq_some_iff.mp e).1, .inl e⟩
      · rename_i d e
        exact ⟨(List.getElem?_eq_some_iff.mp e).1, .inr ⟨d, e⟩⟩
      · exact h1.elim
    · exact okW_lt h2 v h
theorem wipe_get (σ : St) (j : Nat) : ∀ vs : List Nat, (wipe σ vs)[j]? = if j ∈ vs then (σ[j]?).map (fun _ => none) else σ[j]?
  | [] => by simp [wipe]
  | v :: vs => by
    unfold wipe
    by_cases hj : v = j
    · subst hj
      rw [List.getElem?_set_self', wipe_get σ v vs, if_pos List.mem_cons_self]
      split
      · cases σ[v]? <;> rfl
      · rfl
    · rw [List.getElem?_set_ne hj, wipe_get σ j vs]
      have : (j ∈ v :: vs) ↔ j ∈ vs := by
        rw [List.mem_cons]
        exact ⟨fun h => h.resolve_left fun e => hj e.symm, .inr⟩
      by_cases hm : j ∈ vs
      · rw [if_pos hm, if_pos (this.mpr hm)]
      · rw [if_neg hm, if_neg fun h => hm (this.mp h)]
theorem wipe_set {i : Nat} {x : Option V} {vs : List Nat} (h : i ∈ vs) : wipe (σ.set i x) vs = wipe σ vs := by
  apply List.ext_getElem?
  intro j
  rw [wipe_get, wipe_get]
  by_cases hj : j ∈ vs
  · rw [if_pos hj, if_pos hj]
    by_cases e : i = j
    · subst e
      rw [List.getElem?_set_self']
      cases σ[i]? <;> rfl
    · rw [List.getElem?_set_ne e]
  · rw [if_neg hj, if_neg hj, List.getElem?_set_ne (show i ≠ j from fun e => by subst e; exact hj h)]
theorem wipe_wipe (vs : List Nat) : wipe (wipe σ vs) vs = wipe σ vs := by
  apply List.ext_getElem?
  intro j
  rw [wipe_get, wipe_get]
  split
  · cases σ[j]? <;> rfl
  · rfl
theorem wipe_append : ∀ {vs : List Nat}, (∀ v ∈ vs, v < σ.length) → wipe (σ ++ τ) vs = wipe σ vs ++ τ
  | [], _ => rfl
  | v :: vs, h => by
    unfold wipe
    rw [wipe_append fun w hw => h w (List.mem_cons_of_mem _ hw), List.set_append_left _ _ (by rw [wipe_length]; exact h v List.mem_cons_self)]
theorem wipeE_append : ∀ {vs : List Nat}, (∀ v ∈ vs, v < Γ.length) → wipeE (Γ ++ Δ) vs = wipeE Γ vs ++ Δ
  | [], _ => rfl
  | v :: vs, h => by
    unfold wipeE
    rw [wipeE_append fun w hw => h w (List.mem_cons_of_mem _ hw), List.set_append_left _ _ (by rw [wipeE_length]; exact h v List.mem_cons_self)]
theorem Rel.setNo {i : Nat} {x : Option V} (c : Rel G C Hi σ H Γ) : Rel G C Hi (σ.set i x) H (Γ.set i .no) := by
  by_cases hi : i < Γ.length
  · exact c.put_no hi
  · rw [set_far hi, set_far (by rw [← c.len]; exact hi)]; exact c
theorem Rel.wipe (c : Rel G C Hi σ H Γ) : ∀ vs : List Nat, Rel G C Hi (L2.wipe σ vs) H (wipeE Γ vs)
  | [] => c
  | v :: vs => (c.wipe vs).setNo
theorem Rel.unwipe (c1 : Rel G C Hi1 σ H1 Γ1) (e : Ext Hi1 Hi) (hd : τ.length = Δ.length) : ∀ (vs : List Nat) {Γ2 : Ev}, okW Γ1 vs → vs.Nodup → Γ2.length = σ.length → Rel G C Hi (L2.wipe σ vs ++ τ) H (Γ2 ++ Δ) →
    Rel G C Hi (σ ++ τ) H (restE Γ1 Γ2 vs ++ Δ)
  | [], Γ2, _, _, _, c => c
  | v :: vs, Γ2, ok, nd, hl, c => by
    obtain ⟨hv, hs⟩ := okW_lt ok v List.mem_cons_self
    have hvs : v < σ.length := by rw [← c1.len]; exact hv
    obtain ⟨nd1, nd2⟩ := List.nodup_cons.mp nd
    have ew : ((L2.wipe σ (v :: vs)).set v σ[v]) = L2.wipe σ vs := by
      show (((L2.wipe σ vs).set v none).set v σ[v]) = L2.wipe σ vs
      rw [List.set_set]
      apply List.ext_getElem?
      intro j
      by_cases hj : v = j
      · subst hj
        rw [List.getElem?_set_self (by rw [wipe_length]; exact hvs), wipe_get, if_neg nd1, List.getElem?_eq_getElem hvs]
      · rw [List.getElem?_set_ne hj]
    have step : Rel G C Hi (((L2.wipe σ (v :: vs)) ++ τ).set v σ[v]) H ((Γ2 ++ Δ).set v ((Γ1[v]?).getD .no)) := by
      rcases hs with hs | ⟨d, hs⟩
      · rw [hs]
        exact c.setNo
      · rw [hs]
        obtain ⟨x, hx, rx⟩ := c1.at_sh hs
        rw [List.getElem?_eq_getElem hvs] at hx
        rw [Option.some.inj hx]
        exact c.setSh (rx.mono e)
    rw [List.set_append_left _ _ (by rw [wipe_length]; exact hvs), ew, List.set_append_left _ _ (by rw [hl]; exact hvs)] at step
    exact Rel.unwipe c1 e hd vs ok.2 nd2 (by rw [List.length_set]; exact hl) step

def SimGw (G : Gb) (g : TG) (w : WG) (vs : List Nat) : Prop := ∀ (C : Cf) (Hi : Hp) (σ : St) (H : Hp) (Γ : Ev) (v : V) (d : D) (Q : St → Hp → Prop) (Qd : Ev → Prop), Rel G C Hi σ H Γ → Rep G.K Hi v d → w d Γ Qd →
  (∀ σ' Γ', Rel G C Hi σ' H Γ' → L2.wipe σ' vs = L2.wipe σ vs → Qd Γ' → Q σ' H) → g v σ H Q
def SimGsw (G : Gb) (g : TGs) (w : WGs) (vs : List Nat) : Prop := ∀ (C : Cf) (Hi : Hp) (σ : St) (H : Hp) (Γ : Ev) (xs : List V) (ds : List D) (Q : St → Hp → Prop) (Qd : Ev → Prop), Rel G C Hi σ H Γ → Reps G.K Hi xs ds → w ds Γ Qd →
  (∀ σ' Γ', Rel G C Hi σ' H Γ' → L2.wipe σ' vs = L2.wipe σ vs → Qd Γ' → Q σ' H) → g xs σ H Q
theorem simgw_name (i : Nat) {vs : List Nat} (h : i ∈ vs) : SimGw G (gName i) (wgName i) vs := fun C Hi σ H Γ v d Q Qd c r hw q => q _ _ (c.setSh r) (wipe_set h) hw
theorem simgw_nil {vs : List Nat} : SimGsw G gNil wgNil vs := by
  intro C Hi σ H Γ xs ds Q Qd c r hw h
  cases r with
  | nil => exact ⟨rfl, h _ _ c rfl hw⟩
  | cons _ _ => exact hw.elim
theorem simgw_cons {vs : List Nat} {g : TG} {a : WG} {gs : TGs} {b : WGs} (ha : SimGw G g a vs) (hb : SimGsw G gs b vs) : SimGsw G (gCons g gs) (wgCons a b) vs := by
  intro C Hi σ H Γ xs ds Q Qd c r hw h
  cases r with
  | nil => exact hw.elim
  | cons r1 rr => exact ⟨_, _, rfl, ha C Hi σ H Γ _ _ _ _ c r1 hw fun σ' Γ' c' e' q => hb C Hi σ' H Γ' _ _ _ _ c' rr q fun σ2 Γ2 c2 e2 q2 => h σ2 Γ2 c2 (e2.trans e') q2⟩
theorem simgw_tup {vs : List Nat} {n : Nat} {gs : TGs} {b : WGs} (hb : SimGsw G gs b vs) : SimGw G (gTup G.K n gs) (wgTup n b) vs := by
  intro C Hi σ H Γ v d Q Qd c r hw h
  cases r with
  | tup s r =>
    obtain ⟨hl, hw⟩ := hw
    exact ⟨_, _, rfl, SqT.of (c.imm _ _ s), by rw [r.length]; exact hl, hb C Hi σ H Γ _ _ _ _ c r hw h⟩
  | _ => exact hw.elim

def noX : XW := fun _ _ => False
abbrev noW : WX := fun _ _ _ _ => False
def wYes : WT := fun Γ Q _ => Q true Γ
theorem sim_yes : SimT G W tYes wYes := fun C Hi σ H Γ Q Qd Xd c hw hQ hX => hQ true H Hi Γ (Ext.refl _) c hw
def lcW (vs : List Nat) (g : WG) (t : WT) (w : WE) (k : List D → Ev → Prop) : List PyData → List D → Ev → Prop
  | [], acc, Γ => k acc Γ
  | d :: ds, acc, Γ => g d Γ fun Γ1 => t Γ1 (fun b Γ2 => if b = true then w Γ2 (fun r Γ3 => frW r Γ3 fun e Γ4 => acc.length < sizeLine ∧ lcW vs g t w k ds (acc ++ [e]) (wipeE Γ4 vs)) noX
      else lcW vs g t w k ds acc (wipeE Γ2 vs)) noX
def wLc (vs : List Nat) (wi : WI) (g : WG) (t : WT) (w : WE) : WE := fun Γ Q X => wi Γ (fun ds Γ1 => okW Γ1 vs ∧ lcW vs g t w (fun acc Γ2 => Q (.ow (.list acc)) (restE Γ1 Γ2 vs)) ds [] (wipeE Γ1 vs)) X
theorem plain1 {d : D} : Plain [.ow d] := fun s h => by
  have : s = .ow d := by simpa using h
  exact .inr (.inl ⟨d, this⟩)
theorem lc_run {g : TG} {wg : WG} {tt : TT} {wt : WT} {te : TE} {we : WE} {vs : List Nat} (nd : vs.Nodup) (hg : SimGw G g wg vs) (ht : SimT G noW tt wt) (he : SimE G noW te we) {J : It} {ds : List D} {Q : VK} {Qd : R → Ev → Prop}
    (c1 : Rel G C Hi1 σ H1 Γ1) (it : Items G.K Hi1 J ds) (ok : okW Γ1 vs) (q : lcW vs wg wt we (fun acc Γ2 => Qd (.ow (.list acc)) (restE Γ1 Γ2 vs)) ds [] (wipeE Γ1 vs))
    (hQ : ∀ v r H' Hi' Γ', Ext Hi1 Hi' → Out G C Hi' σ H' Γ' v r → Qd r Γ' → Q v H') : tLc (fun σ H R => R J H) g tt te vs σ H1 Q := by
  intro Dp hD
  have hvl : ∀ v ∈ vs, v < σ.length := fun v hv => by rw [← c1.len]; exact (okW_lt ok v hv).1
  have c3 := (c1.wipe vs).alloc hD (d := .list []) (.lst upd_same .nil)
  refine ⟨fun i m H' => m = ds.length - i ∧ i ≤ ds.length ∧ ∃ Hi' Γ' acc, Ext Hi1 Hi' ∧ Γ'.length = σ.length ∧ Rel G C Hi' (L2.wipe σ vs ++ [some (.ref Dp)]) H' (Γ' ++ [.ow (.list acc)]) ∧
      lcW vs wg wt we (fun acc Γ2 => Qd (.ow (.list acc)) (restE Γ1 Γ2 vs)) (ds.drop i) acc Γ',
    ⟨ds.length, by simp, Nat.zero_le _, Hi1, _, [], Ext.refl _, by rw [wipeE_length]; exact c1.len, c3, q⟩, ?_⟩
  rintro i m H2 ⟨rfl, hil, Hi2, Γ2, acc, e2, hl2, c2, q2⟩
  have hl2' : Γ2.length = (L2.wipe σ vs).length := by rw [wipe_length]; exact hl2
  by_cases hlt : i < ds.length
  · have hd : ds.drop i = ds[i] :: ds.drop (i + 1) := List.drop_eq_getElem_cons hlt
    rw [hd] at q2
    refine .inr ⟨it.go Hi2 H2 i e2 c2.imm hlt, fun H' => ∃ Hi' Γ' acc, Ext Hi1 Hi' ∧ Γ'.length = σ.length ∧ Rel G C Hi' (L2.wipe σ vs ++ [some (.ref Dp)]) H' (Γ' ++ [.ow (.list acc)]) ∧
      lcW vs wg wt we (fun acc Γ2 => Qd (.ow (.list acc)) (restE Γ1 Γ2 vs)) (ds.drop (i + 1)) acc Γ', fun H' z => ⟨ds.length - (i + 1), by omega, rfl, hlt, z⟩, fun x H3 y => ?_⟩
    obtain ⟨Hi3, e3, k3, im3, ov3, r3⟩ := it.yld Hi2 H2 i x H3 ds[i] e2 c2.imm (List.getElem?_eq_getElem hlt) y
    obtain ⟨fp, c4⟩ := c2.grow k3 e3 im3 ov3
    have f3 := e2.trans e3
    refine hg _ Hi3 (L2.wipe σ vs) H3 Γ2 x _ _ _ ⟨_, c4.aside hl2'⟩ r3 q2 fun σ5 Γ5 c5 w5 q5 => ?_
    have w5' : L2.wipe σ5 vs = L2.wipe σ vs := w5.trans (wipe_wipe vs)
    have l5 : σ5.length = σ.length := by
      have := congrArg List.length w5'
      rw [wipe_length, wipe_length] at this
      exact this
    have hv5 : ∀ v ∈ vs, v < σ5.length := fun v hv => by rw [l5]; exact hvl v hv
    refine ⟨w5.trans (by rw [wipe_wipe]), ht _ Hi3 σ5 H3 Γ5 _ _ noX c5 q5 (fun b H6 Hi6 Γ6 e6 c6 q6 => ?_) fun _ _ _ _ _ _ _ _ _ z => z.elim⟩
    cases b with
    | false =>
      obtain ⟨fp6, c6⟩ := c6
      have c9 := (c4.back hl2' plain1 e6 c6).wipe vs
      rw [wipe_append hv5, wipeE_append (fun v hv => by rw [c6.len]; exact hv5 v hv), w5'] at c9
      exact ⟨Hi6, _, acc, f3.trans e6, by rw [wipeE_length, c6.len, l5], c9, q6⟩
    | true =>
      refine he _ Hi6 σ5 H6 Γ6 _ _ noX c6 q6 (fun v7 r7 H7 Hi7 Γ7 e7 o7 q7 => ?_) fun _ _ _ _ _ _ _ _ _ z => z.elim
      obtain ⟨d, Hi8, Γ8, e8, c8, r8, hz, q8⟩ := o7.share q7
      obtain ⟨fp8, c8⟩ := c8
      have f8 := (e6.trans e7).trans e8
      have c9 := c4.back hl2' plain1 f8 c8
      have hat : (Γ8 ++ [Sl.ow (.list acc)])[Γ8.length]? = some (.ow (.list acc)) := by simp
      obtain ⟨p, hp, ow⟩ := c9.at_ow hat
      have ep : p = Dp := by
        rw [c8.len] at hp
        simpa using hp.symm
      subst ep
      cases ow with
      | lst hl rl =>
        refine ⟨_, hl, by rw [rl.length]; exact hz, ?_⟩
        have c10 := c9.write hat hp (d' := .list (acc ++ [d])) (.lst upd_same (rl.append (.one r8)))
        have e10 : (Γ8 ++ [Sl.ow (.list acc)]).set Γ8.length (.ow (.list (acc ++ [d]))) = Γ8 ++ [.ow (.list (acc ++ [d]))] := by simp
        rw [e10] at c10
        have c11 := c10.wipe vs
        rw [wipe_append hv5, wipeE_append (fun v hv => by rw [c8.len]; exact hv5 v hv), w5'] at c11
        exact ⟨Hi8, _, acc ++ [d], f3.trans f8, by rw [wipeE_length, c8.len, l5], c11, q8⟩
  · have e : i = ds.length := by omega
    subst e
    rw [List.drop_length] at q2
    refine .inl ⟨it.stop Hi2 H2 _ e2 c2.imm (Nat.le_refl _), hQ (.ref Dp) (.ow (.list acc)) H2 Hi2 _ e2 ⟨by rw [restE_length]; exact hl2, ?_⟩ q2⟩
    exact Rel.unwipe c1 e2 rfl vs ok nd hl2 c2

theorem sim_lc {ti : TI} {wi : WI} {g : TG} {wg : WG} {tt : TT} {wt : WT} {te : TE} {we : WE} {vs : List Nat} (nd : vs.Nodup) (hi : SimI G W ti wi) (hg : SimGw G g wg vs) (ht : SimT G noW tt wt) (he : SimE G noW te we) :
    SimE G W (tLc ti g tt te vs) (wLc vs wi wg wt we) := by
  intro C Hi σ H Γ Q Qd Xd c hw hQ hX
  exact hi C Hi σ H Γ _ _ Xd c hw (fun J ds H1 Hi1 Γ1 e1 c1 it q => lc_run nd hg ht he c1 it q.1 q.2 fun v r H' Hi' Γ' e o q => hQ v r H' Hi' Γ' (e1.trans e) o q) hX

def dcW (vs : List Nat) (g : WG) (t : WT) (wk wv : WE) (k : List (D × D) → Ev → Prop) : List PyData → List (D × D) → Ev → Prop
  | [], acc, Γ => k acc Γ
  | d :: ds, acc, Γ => g d Γ fun Γ1 => t Γ1 (fun b Γ2 => if b = true then wk Γ2 (fun rk Γ3 => wv Γ3 (fun rv Γ4 => frW rk Γ4 fun ek Γ5 => frW rv Γ5 fun e Γ6 => isK ek (acc.length < sizeLine ∧ dcW vs g t wk wv k ds (dput acc ek e) (wipeE Γ6 vs))) noX) noX
      else dcW vs g t wk wv k ds acc (wipeE Γ2 vs)) noX
def wDc (vs : List Nat) (wi : WI) (g : WG) (t : WT) (wk wv : WE) : WE := fun Γ Q X => wi Γ (fun ds Γ1 => okW Γ1 vs ∧ dcW vs g t wk wv (fun acc Γ2 => Q (.ow (.dict acc)) (restE Γ1 Γ2 vs)) ds [] (wipeE Γ1 vs)) X
theorem sim_dc {ti : TI} {wi : WI} {g : TG} {wg : WG} {tt : TT} {wt : WT} {tk tv : TE} {wk wv : WE} {vs : List Nat} (nd : vs.Nodup) (hi : SimI G W ti wi) (hg : SimGw G g wg vs) (ht : SimT G noW tt wt) (hk : SimE G noW tk wk) (hv : SimE G noW tv wv) :
    SimE G W (tDc ti g tt tk tv vs) (wDc vs wi wg wt wk wv) := by
  intro C Hi σ H Γ Q Qd Xd c hw hQ hX
  refine hi C Hi σ H Γ _ _ Xd c hw (fun J ds H1 Hi1 Γ1 e1 c1 it q => ?_) hX
  obtain ⟨ok, q⟩ := q
  intro Dp hD
  have hvl : ∀ v ∈ vs, v < σ.length := fun v hv => by rw [← c1.len]; exact (okW_lt ok v hv).1
  have c3 := (c1.wipe vs).alloc hD (d := .dict []) (.dct upd_same .nil)
  refine ⟨fun i m H' => m = ds.length - i ∧ i ≤ ds.length ∧ ∃ Hi' Γ' acc, Ext Hi1 Hi' ∧ Γ'.length = σ.length ∧ Rel G C Hi' (L2.wipe σ vs ++ [some (.ref Dp)]) H' (Γ' ++ [.ow (.dict acc)]) ∧
      dcW vs wg wt wk wv (fun acc Γ2 => Qd (.ow (.dict acc)) (restE Γ1 Γ2 vs)) (ds.drop i) acc Γ',
    ⟨ds.length, by simp, Nat.zero_le _, Hi1, _, [], Ext.refl _, by rw [wipeE_length]; exact c1.len, c3, q⟩, ?_⟩
  rintro i m H2 ⟨rfl, hil, Hi2, Γ2, acc, e2, hl2, c2, q2⟩
  have hl2' : Γ2.length = (L2.wipe σ vs).length := by rw [wipe_length]; exact hl2
  by_cases hlt : i < ds.length
  · have hd : ds.drop i = ds[i] :: ds.drop (i + 1) := List.drop_eq_getElem_cons hlt
    rw [hd] at q2
    refine .inr ⟨it.go Hi2 H2 i e2 c2.imm hlt, fun H' => ∃ Hi' Γ' acc, Ext Hi1 Hi' ∧ Γ'.length = σ.length ∧ Rel G C Hi' (L2.wipe σ vs ++ [some (.ref Dp)]) H' (Γ' ++ [.ow (.dict acc)]) ∧
      dcW vs wg wt wk wv (fun acc Γ2 => Qd (.ow (.dict acc)) (restE Γ1 Γ2 vs)) (ds.drop (i + 1)) acc Γ', fun H' z => ⟨ds.length - (i + 1), by omega, rfl, hlt, z⟩, fun x H3 y => ?_⟩
    obtain ⟨Hi3, e3, k3, im3, ov3, r3⟩ := it.yld Hi2 H2 i x H3 ds[i] e2 c2.imm (List.getElem?_eq_getElem hlt) y
    obtain ⟨fp, c4⟩ := c2.grow k3 e3 im3 ov3
    have f3 := e2.trans e3
    refine hg _ Hi3 (L2.wipe σ vs) H3 Γ2 x _ _ _ ⟨_, c4.aside hl2'⟩ r3 q2 fun σ5 Γ5 c5 w5 q5 => ?_
    have w5' : L2.wipe σ5 vs = L2.wipe σ vs := w5.trans (wipe_wipe vs)
    have l5 : σ5.length = σ.length := by
      have := congrArg List.length w5'
      rw [wipe_length, wipe_length] at this
      exact this
    have hv5 : ∀ v ∈ vs, v < σ5.length := fun v hv => by rw [l5]; exact hvl v hv
    refine ⟨w5.trans (by rw [wipe_wipe]), ht _ Hi3 σ5 H3 Γ5 _ _ noX c5 q5 (fun b H6 Hi6 Γ6 e6 c6 q6 => ?_) fun _ _ _ _ _ _ _ _ _ z => z.elim⟩
    cases b with
    | false =>
      obtain ⟨fp6, c6⟩ := c6
      have c9 := (c4.back hl2' plain1 e6 c6).wipe vs
      rw [wipe_append hv5, wipeE_append (fun v hv => by rw [c6.len]; exact hv5 v hv), w5'] at c9
      exact ⟨Hi6, _, acc, f3.trans e6, by rw [wipeE_length, c6.len, l5], c9, q6⟩
    | true =>
      refine hk _ Hi6 σ5 H6 Γ6 _ _ noX c6 q6 (fun v7 r7 H7 Hi7 Γ7 e7 o7 q7 => ?_) fun _ _ _ _ _ _ _ _ _ z => z.elim
      obtain ⟨Hi8, e8, c8, h8⟩ := o7.hold
      refine hv _ Hi8 σ5 H7 Γ7 _ _ noX c8 q7 (fun v9 r9 H9 Hi9 Γ9 e9 o9 q9 => ?_) fun _ _ _ _ _ _ _ _ _ z => z.elim
      obtain ⟨Hi10, e10, c10, h10⟩ := o9.hold
      obtain ⟨dk, Hi11, Γ11, e11, c11, r11, q11⟩ := (h8.mono (e9.trans e10)).share c10 q9
      obtain ⟨dv, Hi12, Γ12, e12, c12, r12, q12⟩ := (h10.mono e11).share c11 q11
      obtain ⟨⟨key, rfl⟩, hz, q13⟩ := isK_inv q12
      obtain ⟨fp8, c12⟩ := c12
      have f8 := ((((e6.trans e7).trans e8).trans e9).trans e10).trans (e11.trans e12)
      have c13 := c4.back hl2' plain1 f8 c12
      have hat : (Γ12 ++ [Sl.ow (.dict acc)])[Γ12.length]? = some (.ow (.dict acc)) := by simp
      obtain ⟨p, hp, ow⟩ := c13.at_ow hat
      have ep : p = Dp := by
        rw [c12.len] at hp
        simpa using hp.symm
      subst ep
      cases ow with
      | dct hl rl =>
        refine ⟨_, key, r11.key, hl, by rw [rl.length]; exact hz, ?_⟩
        have c14 := c13.write hat hp (d' := .dict (dput acc (kD key) dv)) (.dct upd_same (rl.put r12))
        have e14 : (Γ12 ++ [Sl.ow (.dict acc)]).set Γ12.length (.ow (.dict (dput acc (kD key) dv))) = Γ12 ++ [.ow (.dict (dput acc (kD key) dv))] := by simp
        rw [e14] at c14
        have c15 := c14.wipe vs
        rw [wipe_append hv5, wipeE_append (fun v hv => by rw [c12.len]; exact hv5 v hv), w5'] at c15
        exact ⟨Hi12, _, _, f3.trans f8, by rw [wipeE_length, c12.len, l5], c15, q13⟩
  · have e : i = ds.length := by omega
    subst e
    rw [List.drop_length] at q2
    refine .inl ⟨it.stop Hi2 H2 _ e2 c2.imm (Nat.le_refl _), hQ (.ref Dp) (.ow (.dict acc)) H2 Hi2 _ (e1.trans e2) ⟨by rw [restE_length]; exact hl2, ?_⟩ q2⟩
    exact Rel.unwipe c1 e2 rfl vs ok nd hl2 c2
end
end VL

set_option Elab.async false
set_option linter.all false
set_option maxRecDepth 100000
namespace VL
open PySem L2

abbrev FS := Option Sl → List D → (R → Option Sl → Prop) → (Exn → Option Sl → Prop) → Prop

section
variable {G : Gb} {C : Cf} {Hi Hi' H H' : Hp} {σ : St} {Γ : Ev} {W : WX}
def IoAt (G : Gb) (Hi H : Hp) : Option Sl → List V → List Addr → Prop
  | none, pre, fp => pre = [] ∧ fp = []
  | some (.io d), pre, fp => ∃ p, pre = [.ref p] ∧ fp = [p] ∧ Own G.K Hi H p d
  | some (.op t d), pre, fp => t < 10 ∧ ∃ p, pre = [.ref p] ∧ G.Op.ok t d Hi H p fp
  | _, _, _ => False
def ResAt (G : Gb) (Hi H H' : Hp) (fp : List Addr) (v : V) : R → Prop
  | .sh d => Rep G.K Hi v d
  | .ow d => ∃ p, v = .ref p ∧ Own G.K Hi H' p d ∧ Hi p = none ∧ H p = none ∧ p ∉ fp
  | .vr _ => False
  | .op t d => 10 ≤ t ∧ ∃ p fp2, v = .ref p ∧ G.Op.ok t d Hi H' p fp2 ∧ ∀ a ∈ fp2, Hi a = none ∧ H a = none ∧ a ∉ fp
structure Left (G : Gb) (Hi H : Hp) (pre : List V) (fp : List Addr) (Hi' H' : Hp) (io : Option Sl) (fp' : List Addr) : Prop where
  e : Ext Hi Hi'
  imm : Ext Hi' H'
  ov : ∀ a o, Hi' a = some o → Hi a = some o ∨ H a = none
  keep : ∀ a o, H a = some o → a ∉ fp → H' a = some o
  live : ∀ a, H a ≠ none → H' a ≠ none
  at_ : IoAt G Hi' H' io pre fp'
  cells : ∀ a ∈ fp', Hi' a = none ∧ (a ∈ fp ∨ H a = none)
def lift (G : Gb) (fs : FS) : Sp := fun vs H Q E => ∃ (io : Option Sl) (ds : List D) (Hi : Hp) (Qd : R → Option Sl → Prop) (Xd : Exn → Option Sl → Prop) (pre post : List V) (fp : List Addr),
  vs = pre ++ post ∧ IoAt G Hi H io pre fp ∧ Reps G.K Hi post ds ∧ Ext Hi H ∧ (∀ a ∈ fp, Hi a = none) ∧ fs io ds Qd Xd ∧
  (∀ v r H' Hi' io' fp', Left G Hi H pre fp Hi' H' io' fp' → ResAt G Hi' H H' fp' v r → Qd r io' → Q v H') ∧
  (∀ x c d H' Hi' io' fp', Left G Hi H pre fp Hi' H' io' fp' → G.xr x c d Hi' → Xd x io' → E c d H')

def ioL : Option Sl → Ev
  | none => []
  | some s => [s]
def Γ0 (io : Option Sl) (ds : List D) (n : Nat) : Ev := ioL io ++ ds.map Sl.sh ++ List.replicate (n - (ioL io ++ ds.map Sl.sh).length) .no
def ioOf (io : Option Sl) (Γ : Ev) : Option Sl := match io with
  | none => none
  | some _ => Γ[0]?
def retW (r : R) (Γ : Ev) (k : R → Ev → Prop) : Prop := match r with
  | .sh d => k (.sh d) Γ
  | .ow d => k (.ow d) Γ
  | .vr i => match Γ[i]? with
    | some (.sh d) => k (.sh d) Γ
    | some (.ow d) => k (.ow d) (Γ.set i .no)
    | some (.op t d) => 10 ≤ t ∧ k (.op t d) (Γ.set i .no)
    | _ => False
  | .op t d => 10 ≤ t ∧ k (.op t d) Γ
def SameIo : Option Sl → Option Sl → Prop
  | none, none => True
  | some (.io _), some (.io _) => True
  | some (.op t _), some (.op u _) => t = u
  | _, _ => False
def FnV (fs : FS) (n : Nat) (ws : WS) : Prop := ∀ (io : Option Sl) (ds : List D) (Qd : R → Option Sl → Prop) (Xd : Exn → Option Sl → Prop), fs io ds Qd Xd →
  ws (Γ0 io ds n) ⟨fun Γ => SameIo io (ioOf io Γ) ∧ Qd (.sh .none) (ioOf io Γ), fun r Γ => retW r Γ fun r' Γ' => SameIo io (ioOf io Γ') ∧ Qd r' (ioOf io Γ'), fun _ => False, fun _ => False⟩ fun x Γ => SameIo io (ioOf io Γ) ∧ Xd x (ioOf io Γ)
def FnL (fs : FS) (m : Nat) : Prop := ∀ io ds Qd Xd, fs io ds Qd Xd → (ioL io ++ ds.map Sl.sh).length = m
theorem lift_len {fs : FS} {m : Nat} (h : FnL fs m) {vs : List V} {Q : VK} {E : XK} (l : lift G fs vs H Q E) : vs.length = m := by
  obtain ⟨io, ds, Hi, Qd, Xd, pre, post, fp, rfl, hio, hr, _, _, hf, _⟩ := l
  have := h io ds Qd Xd hf
  rw [← this, List.length_append, List.length_append, List.length_map, hr.length]
  congr 1
  cases io with
  | none => obtain ⟨rfl, _⟩ := hio; rfl
  | some s =>
    cases s with
    | io d => obtain ⟨p, rfl, _⟩ := hio; rfl
    | op t d => obtain ⟨_, p, rfl, _⟩ := hio; rfl
    | _ => exact hio.elim
theorem IoAt.trk {io : Option Sl} {pre : List V} {fp : List Addr} (h : IoAt G Hi H io pre fp) : ∀ a ∈ fp, ∃ o, H a = some o := by
  cases io with
  | none => obtain ⟨_, rfl⟩ := h; intro a ha; cases ha
  | some s =>
    cases s with
    | io d =>
      obtain ⟨p, _, rfl, ow⟩ := h
      intro a ha
      have : a = p := by simpa using ha
      rw [this]; exact ow.trk
    | op t d => obtain ⟨_, p, _, ok⟩ := h; exact G.Op.trk ok
    | _ => exact h.elim
def cfOf (Hi H : Hp) (io : Option Sl) (pre : List V) (fp : List Addr) (h : ∀ a ∈ fp, ∃ o, H a = some o) : Cf :=
  ⟨H, Hi, fun a => a ∈ fp, fun a ha => by obtain ⟨o, e⟩ := h a ha; rw [e]; simp, fun t => match io, pre with
    | some (.op u _), [.ref p] => if t = u then some p else none
    | _, _ => none⟩
theorem slots_sh {C : Cf} : ∀ {vs : List V} {ds : List D}, Reps G.K Hi vs ds → ∀ (i : Nat) s, (ds.map Sl.sh)[i]? = some s → ∃ x, (vs.map some)[i]? = some x ∧ SlOk G C Hi H x [] s := by
  intro vs ds r i s h
  rw [List.getElem?_map] at h
  cases q : ds[i]? with
  | none => rw [q] at h; cases h
  | some d =>
    rw [q] at h; cases h
    obtain ⟨v, h1, h2⟩ := r.get q
    exact ⟨some v, by rw [List.getElem?_map, h1]; rfl, rfl, v, rfl, h2⟩
theorem begin_sh (C : Cf) (hC : C.H0 = H) (hI : C.I0 = Hi) {vs : List V} {ds : List D} (r : Reps G.K Hi vs ds) (im : Ext Hi H) : Core G C Hi (vs.map some) H (ds.map Sl.sh) fun _ => [] := by
  subst hC hI
  exact ⟨fun a o h _ => h, fun a h => h, im, Ext.refl _, fun a o h => .inl h, by simp [r.length], slots_sh r, fun i j a _ _ h => (nomatch h), fun i a _ h => (nomatch h)⟩
theorem Core.front {C : Cf} {x : Option V} {l : List Addr} {s : Sl} {fp : Nat → List Addr} (c : Core G C Hi σ H Γ fp) (ok : SlOk G C Hi H x l s) (nw : ∀ a ∈ l, Hi a = none ∧ ∀ j, j < Γ.length → a ∉ fp j) :
    Core G C Hi (x :: σ) H (s :: Γ) (fun j => match j with | 0 => l | j + 1 => fp j) := by
  refine ⟨c.frame, c.live, c.imm, c.base, c.ov, by simp [c.len], fun j s' h => ?_, fun i j a hi hj h1 h2 => ?_, fun i a hi h => ?_⟩
  · cases j with
    | zero => simp at h; subst h; exact ⟨x, rfl, ok⟩
    | succ j =>
      obtain ⟨y, h1, h2⟩ := c.sl j s' (by simpa using h)
      exact ⟨y, by simpa using h1, h2⟩
  · cases i with
    | zero =>
      cases j with
      | zero => rfl
      | succ j => exact absurd h2 ((nw a h1).2 j (by simpa using hj))
    | succ i =>
      cases j with
      | zero => exact absurd h1 ((nw a h2).2 i (by simpa using hi))
      | succ j => exact congrArg (· + 1) (c.dj i j a (by simpa using hi) (by simpa using hj) h1 h2)
  · cases i with
    | zero => exact (nw a h).1
    | succ i => exact c.av i a (by simpa using hi) h
theorem Rel.more {C : Cf} (c : Rel G C Hi σ H Γ) : ∀ n : Nat, Rel G C Hi (σ ++ List.replicate n none) H (Γ ++ List.replicate n .no)
  | 0 => by simpa using c
  | n + 1 => by
    rw [List.replicate_succ', List.replicate_succ', ← List.append_assoc, ← List.append_assoc]
    obtain ⟨fp, c'⟩ := c.more n
    exact ⟨_, c'.push (l := []) (Ext.refl _) rfl fun a ha => (nomatch ha)⟩
theorem begin_rel {io : Option Sl} {pre post : List V} {ds : List D} {fp : List Addr} (hio : IoAt G Hi H io pre fp) (r : Reps G.K Hi post ds) (im : Ext Hi H) (av : ∀ a ∈ fp, Hi a = none) :
    Rel G (cfOf Hi H io pre fp hio.trk) Hi ((pre ++ post).map some) H (ioL io ++ ds.map Sl.sh) := by
  have sh0 := begin_sh (cfOf Hi H io pre fp hio.trk) rfl rfl r im
  cases io with
  | none =>
    obtain ⟨rfl, _⟩ := hio
    exact ⟨_, sh0⟩
  | some s =>
    cases s with
    | io d =>
      obtain ⟨p, rfl, rfl, ow⟩ := id hio
      exact ⟨_, sh0.front (x := some (.ref p)) (l := [p]) (s := .io d) ⟨p, rfl, rfl, ow, show p ∈ [p] from List.mem_singleton.mpr rfl⟩ fun a ha => ⟨av a ha, fun j _ h => (nomatch h)⟩⟩
    | op t d =>
      obtain ⟨ht, p, rfl, ok⟩ := id hio
      refine ⟨_, sh0.front (x := some (.ref p)) (l := fp) (s := .op t d) ⟨p, rfl, ok, fun a ha => .inr ⟨by assumption, ha⟩, fun q _ hq => ?_⟩ fun a ha => ⟨av a ha, fun j _ h => (nomatch h)⟩⟩
      have hq : (if t = t then some p else none) = some q := hq
      rw [if_pos rfl] at hq
      exact Option.some.inj hq
    | _ => exact hio.elim
theorem end_left {io : Option Sl} {pre : List V} {fp : List Addr} {Γ' : Ev} {σ' : St} {fpf : Nat → List Addr} (hio : IoAt G Hi H io pre fp) {h : ∀ a ∈ fp, ∃ o, H a = some o} (c : Core G (cfOf Hi H io pre fp h) Hi' σ' H' Γ' fpf) (e : Ext Hi Hi')
    (h0 : SameIo io (ioOf io Γ')) : ∃ fp', Left G Hi H pre fp Hi' H' (ioOf io Γ') fp' ∧ ((io = none ∧ fp' = []) ∨ (fp' = fpf 0 ∧ 0 < Γ'.length)) := by
  have base : ∀ fp', IoAt G Hi' H' (ioOf io Γ') pre fp' → (∀ a ∈ fp', Hi' a = none ∧ (a ∈ fp ∨ H a = none)) → Left G Hi H pre fp Hi' H' (ioOf io Γ') fp' := fun fp' ia ce =>
    ⟨e, c.imm, c.ov, fun a o q n => c.frame a o q n, c.live, ia, ce⟩
  cases io with
  | none =>
    obtain ⟨rfl, rfl⟩ := id hio
    exact ⟨[], base [] ⟨rfl, rfl⟩ (fun a ha => (nomatch ha)), .inl ⟨rfl, rfl⟩⟩
  | some s0 =>
    have ei : ioOf (some s0) Γ' = Γ'[0]? := rfl
    cases hs : Γ'[0]? with
    | none =>
      rw [ei, hs] at h0
      cases s0 <;> exact h0.elim
    | some s =>
      have h0l : 0 < Γ'.length := (List.getElem?_eq_some_iff.mp hs).1
      obtain ⟨x, hx, ok⟩ := c.sl 0 s hs
      have hce : ∀ a ∈ fpf 0, Hi' a = none ∧ (a ∈ fp ∨ H a = none) := fun a ha => ⟨c.av 0 a h0l ha, by
        rcases ok.home a ha with q | q
        · exact .inr q
        · exact .inl q⟩
      refine ⟨fpf 0, base _ ?_ hce, .inr ⟨rfl, h0l⟩⟩
      rw [ei, hs]
      rw [ei, hs] at h0
      cases s0 with
      | io d0 =>
        cases s with
        | io d =>
          obtain ⟨p, rfl, rfl, _⟩ := id hio
          obtain ⟨p', e0, e1, ow, hio'⟩ := ok
          have : p' = p := by
            have z : p' ∈ [p] := hio'
            simpa using z
          subst this
          exact ⟨p', rfl, e0, ow⟩
        | _ => exact h0.elim
      | op t0 d0 =>
        cases s with
        | op t d =>
          obtain ⟨ht, p, rfl, _⟩ := id hio
          obtain ⟨p', e1, ok', _, hpa⟩ := ok
          have h0 : t0 = t := h0
          subst h0
          have : p' = p := hpa p ht (show (if t0 = t0 then some p else none) = some p from if_pos rfl)
          subst this
          exact ⟨ht, p', rfl, ok'⟩
        | _ => exact h0.elim
      | _ => exact h0.elim

theorem Core.trunc {C : Cf} {σ2 : St} {Γ2 : Ev} {fp : Nat → List Addr} (c : Core G C Hi (σ ++ σ2) H (Γ ++ Γ2) fp) (hl : Γ.length = σ.length) : Core G C Hi σ H Γ fp := by
  refine ⟨c.frame, c.live, c.imm, c.base, c.ov, hl, fun j s h => ?_, fun i j a hi hj => c.dj i j a (by simp; omega) (by simp; omega), fun i a hi => c.av i a (by simp; omega)⟩
  have hj : j < Γ.length := (List.getElem?_eq_some_iff.mp h).1
  obtain ⟨x, h1, h2⟩ := c.sl j s (by rw [List.getElem?_append_left hj]; exact h)
  exact ⟨x, by rw [List.getElem?_append_left (by omega)] at h1; exact h1, h2⟩
theorem Core.push2 {C : Cf} {x : Option V} {l : List Addr} {s : Sl} {fp : Nat → List Addr} (c : Core G C Hi σ H Γ fp) (sok : SlOk G C Hi H x l s) (nw : ∀ a ∈ l, Hi a = none ∧ ∀ j, j < Γ.length → a ∉ fp j) :
    Core G C Hi (σ ++ [x]) H (Γ ++ [s]) (fun j => if j = Γ.length then l else fp j) where
  frame := c.frame
  live := c.live
  imm := c.imm
  base := c.base
  ov := c.ov
  len := by simp [c.len]
  sl := fun j s' h => by
    by_cases hj : j < Γ.length
    · rw [List.getElem?_append_left hj] at h
      obtain ⟨y, h1, h2⟩ := c.sl j s' h
      refine ⟨y, by rw [List.getElem?_append_left (by rw [← c.len]; exact hj)]; exact h1, ?_⟩
      rw [if_neg (Nat.ne_of_lt hj)]
      exact h2
    · rw [List.getElem?_append_right (Nat.le_of_not_lt hj)] at h
      have hj0 : j - Γ.length = 0 := by
        have := (List.getElem?_eq_some_iff.mp h).1
        simp at this; omega
      rw [hj0] at h
      simp at h; subst h
      have : j = Γ.length := by omega
      subst this
      refine ⟨x, by rw [c.len]; simp, ?_⟩
      rw [if_pos rfl]; exact sok
  dj := fun j m a hj hm h1 h2 => by
    simp at hj hm
    by_cases ej : j = Γ.length <;> by_cases em : m = Γ.length
    · rw [ej, em]
    · rw [if_pos ej] at h1; rw [if_neg em] at h2
      exact absurd h2 ((nw a h1).2 m (by omega))
    · rw [if_neg ej] at h1; rw [if_pos em] at h2
      exact absurd h1 ((nw a h2).2 j (by omega))
    · rw [if_neg ej] at h1; rw [if_neg em] at h2
      exact c.dj j m a (by omega) (by omega) h1 h2
  av := fun j a hj h => by
    simp at hj
    by_cases ej : j = Γ.length
    · rw [if_pos ej] at h; exact (nw a h).1
    · rw [if_neg ej] at h; exact c.av j a (by omega) h
theorem end_ret {io : Option Sl} {pre : List V} {fp : List Addr} {Γ' : Ev} {σ' : St} {v : V} {r : R} {k : R → Option Sl → Prop} (hio : IoAt G Hi H io pre fp) {h : ∀ a ∈ fp, ∃ o, H a = some o} (e : Ext Hi Hi')
    (o : Out G (cfOf Hi H io pre fp h) Hi' σ' H' Γ' v r) (q : retW r Γ' fun r' Γ2 => SameIo io (ioOf io Γ2) ∧ k r' (ioOf io Γ2)) :
    ∃ r' io' fp', Left G Hi H pre fp Hi' H' io' fp' ∧ ResAt G Hi' H H' fp' v r' ∧ k r' io' := by
  cases r with
  | sh d =>
    obtain ⟨⟨fpf, c⟩, rp⟩ := o
    obtain ⟨s, q⟩ := q
    obtain ⟨fp', L, _⟩ := end_left hio c e s
    exact ⟨.sh d, _, fp', L, rp, q⟩
  | ow d =>
    obtain ⟨hl, fpf, c⟩ := o
    obtain ⟨s, q⟩ := q
    obtain ⟨fp', L, hfp⟩ := end_left hio (c.trunc hl) e s
    obtain ⟨x, hx, p, f1, e1, ow, h0⟩ := c.sl Γ'.length (.ow d) (by simp)
    have hx : x = some v := by
      rw [hl] at hx
      simpa using hx.symm
    rw [hx] at e1
    cases e1
    have h0 : H p = none := h0
    refine ⟨.ow d, _, fp', L, ⟨p, rfl, ow, c.av Γ'.length p (by simp) (by rw [f1]; simp), h0, fun hm => ?_⟩, q⟩
    rcases hfp with ⟨_, z⟩ | ⟨z, hz⟩
    · rw [z] at hm; cases hm
    · rw [z] at hm
      have := c.dj 0 Γ'.length p (by simp) (by simp) hm (by rw [f1]; simp)
      omega
  | vr i =>
    obtain ⟨⟨fpf, c⟩, hv⟩ := o
    unfold retW at q
    dsimp only at q
    split at q
    · rename_i d ed
      obtain ⟨s, q⟩ := q
      obtain ⟨fp', L, _⟩ := end_left hio c e s
      obtain ⟨w, h1, h2⟩ := Rel.at_sh ⟨fpf, c⟩ ed
      rw [hv] at h1; cases h1
      exact ⟨.sh d, _, fp', L, h2, q⟩
    · rename_i d ed
      obtain ⟨s, q⟩ := q
      have hi : i < Γ'.length := (List.getElem?_eq_some_iff.mp ed).1
      obtain ⟨x, hx, p, f1, e1, ow, h0⟩ := c.sl i _ ed
      rw [hx] at hv
      cases hv
      cases e1
      have h0 : H p = none := h0
      have c2 := c.put (x := none) (l := []) (s := .no) hi rfl fun a ha => (nomatch ha)
      obtain ⟨fp', L, hfp⟩ := end_left hio c2 e s
      refine ⟨.ow d, _, fp', L, ⟨p, rfl, ow, c.av i p hi (by rw [f1]; simp), h0, fun hm => ?_⟩, q⟩
      rcases hfp with ⟨_, z⟩ | ⟨z, hz⟩
      · rw [z] at hm; cases hm
      · rw [z] at hm
        by_cases h0i : 0 = i
        · rw [if_pos h0i] at hm; cases hm
        · rw [if_neg h0i] at hm
          exact h0i (c.dj 0 i p (by rw [List.length_set] at hz; exact hz) hi hm (by rw [f1]; simp))
    · rename_i t d ed
      obtain ⟨ht, s, q⟩ := q
      have hi : i < Γ'.length := (List.getElem?_eq_some_iff.mp ed).1
      obtain ⟨x, hx, p, e1, okk, hh, _⟩ := c.sl i _ ed
      rw [hx] at hv
      cases hv
      cases e1
      have c2 := c.put (x := none) (l := []) (s := .no) hi rfl fun a ha => (nomatch ha)
      obtain ⟨fp', L, hfp⟩ := end_left hio c2 e s
      refine ⟨.op t d, _, fp', L, ⟨ht, p, fpf i, rfl, okk, fun a ha => ⟨c.av i a hi ha, ?_, fun hm => ?_⟩⟩, q⟩
      · rcases hh a ha with z | ⟨z, _⟩
        · exact z
        · omega
      · rcases hfp with ⟨_, z⟩ | ⟨z, hz⟩
        · rw [z] at hm; cases hm
        · rw [z] at hm
          by_cases h0i : 0 = i
          · rw [if_pos h0i] at hm; cases hm
          · rw [if_neg h0i] at hm
            exact h0i (c.dj 0 i a (by rw [List.length_set] at hz; exact hz) hi hm ha)
    · exact q.elim
  | op t d =>
    obtain ⟨hl, fpf, c⟩ := o
    obtain ⟨ht, s, q⟩ := q
    obtain ⟨fp', L, hfp⟩ := end_left hio (c.trunc hl) e s
    obtain ⟨x, hx, p, e1, okk, hh, _⟩ := c.sl Γ'.length (.op t d) (by simp)
    have hx : x = some v := by
      rw [hl] at hx
      simpa using hx.symm
    rw [hx] at e1
    cases e1
    refine ⟨.op t d, _, fp', L, ⟨ht, p, fpf Γ'.length, rfl, okk, fun a ha => ⟨c.av Γ'.length a (by simp) ha, ?_, fun hm => ?_⟩⟩, q⟩
    · rcases hh a ha with z | ⟨z, _⟩
      · exact z
      · omega
    · rcases hfp with ⟨_, z⟩ | ⟨z, hz⟩
      · rw [z] at hm; cases hm
      · rw [z] at hm
        have := c.dj 0 Γ'.length a (by simp) (by simp) hm ha
        omega
theorem vbody {N : List Str} {fs : FS} {ws : WS} {t : TS} {vs : List V} {Q : VK} {E : XK} (hV : FnV fs N.length ws) (hs : SimS G (fun c d _ H => E c d H) t ws) (hsp : lift G fs vs H Q E) : t { nx := fun _ H' => Q .non H', rt := Q } (start N vs) H := by
  obtain ⟨io, ds, Hi, Qd, Xd, pre, post, fp, rfl, hio, hrep, im, av, hf, hQ, hX⟩ := hsp
  have c := (begin_rel hio hrep im av).more (N.length - (pre ++ post).length)
  have el : (pre ++ post).length = (ioL io ++ ds.map Sl.sh).length := by
    have := (begin_rel hio hrep im av).len
    rw [this, List.length_map]
  have eG : ioL io ++ ds.map Sl.sh ++ List.replicate (N.length - (pre ++ post).length) Sl.no = Γ0 io ds N.length := by rw [el]; rfl
  rw [eG] at c
  have wv := hV io ds Qd Xd hf
  exact hs _ Hi _ H _ _ _ _ c wv (fun σ' H' Hi' Γ' e c' ⟨s1, q⟩ => by
      obtain ⟨fpf, c'⟩ := c'
      obtain ⟨fp', L, _⟩ := end_left hio c' e s1
      exact hQ .non (.sh .none) H' Hi' _ fp' L .non q)
    (fun v r σ' H' Hi' Γ' e o q => by
      obtain ⟨r', io', fp', L, ra, q'⟩ := end_ret hio e o q
      exact hQ v r' H' Hi' io' fp' L ra q')
    (fun _ _ _ _ _ _ z => z.elim) (fun _ _ _ _ _ _ z => z.elim)
    (fun x c d σ' H' Hi' Γ' e c' hx ⟨s1, q⟩ => by
      obtain ⟨fpf, c'⟩ := c'
      obtain ⟨fp', L, _⟩ := end_left hio c' e s1
      exact hX x c d H' Hi' _ fp' L hx q)
theorem vfn {P : Program} {w : World} {K : Fg} {mg : Str → Option Value} {base : Heap} {x qual : Str} {params : Arguments} {body : List Stmt} {scope : Scope} {dvs : List V} {kws : List (Str × V)} {f : Addr} {fd : FuncData} {N ps : List Str} {k : Nat} {Op : OpSem} {ca : Str → Addr} {fs : FS} {ws : WS}
    (F : FunD K x qual params body scope dvs kws f fd) (S : FnScope N ps scope) (hL : FnL fs ps.length) (hV : FnV fs N.length ws)
    (hb : ∀ (cdv : Value) (A : Around) (outer : List Env) (s : Shared) (H : Hp) (E : XK), Room k (A.deeper (PyProof.Rows.envOfC qual scope s.heap.objs.size f cdv)) →
      ∃ t, PSs (cxOf (L2N.CX P w) P w K mg base N qual scope f cdv A outer s H E) body t ∧ SimS ⟨K, Op, ca⟩ (fun c d _ H => E c d H) t ws) : FnOk P w K mg base (L2N.CX P w) (k + 1) f fd ps (lift ⟨K, Op, ca⟩ fs) := by
  refine FunD.ok F S (fun vs H Q E h => lift_len hL h) fun cdv A outer s H vs Q E hr hsp => ?_
  obtain ⟨t, hp, hs⟩ := hb cdv A outer s H E hr
  exact ⟨t, hp, vbody hV hs hsp⟩

def wCall (fs : FS) (dv : List D) (wa : WA) : WE := fun Γ Q X => wa Γ (fun rs Γ1 => frAll rs Γ1 fun ds Γ2 => fs none (ds ++ dv) (fun r _ => Q r Γ2) fun x _ => X x Γ2) X
theorem sim_callSD {fs : FS} {ta : TA} {wa : WA} {dvs : List V} {dv : List D} (hd : ∀ Hi, Reps G.K Hi dvs dv) (ha : SimA G W ta wa) : SimE G W (tCallSD (lift G fs) dvs (L2.WE W) ta) (wCall fs dv wa) := by
  intro C Hi σ H Γ Q Qd Xd c hw hQ hX
  refine ha C Hi σ H Γ _ _ Xd c hw (fun vs rs H1 Hi1 Γ1 e1 c1 h1 q1 => ?_) hX
  obtain ⟨ds, Hi2, Γ2, e2, c2, rp, q2⟩ := h1.share (Ext.refl _) c1 q1
  have f2 := e1.trans e2
  refine ⟨none, ds ++ dv, Hi2, _, _, [], vs ++ dvs, [], rfl, ⟨rfl, rfl⟩, rp.append (hd Hi2), c2.imm, fun a ha => (nomatch ha), q2, fun v r H' Hi' io' fp' L ra q => ?_, fun x cl d H' Hi' io' fp' L hx q => ?_⟩
  · have c3 := c2.grow (fun a o h => L.keep a o h (fun z => nomatch z)) L.e L.imm L.ov
    cases r with
    | sh d => exact hQ v (.sh d) H' Hi' Γ2 (f2.trans L.e) ⟨c3, ra⟩ q
    | vr i => exact ra.elim
    | ow d =>
      obtain ⟨p, rfl, ow, hn, h0, hnf⟩ := ra
      obtain ⟨fpc, c2⟩ := c2
      obtain ⟨n1, n2⟩ := c2.fresh h0
      have c4 := c2.grow (fun a o h => L.keep a o h (fun z => nomatch z)) L.e L.imm L.ov
      refine hQ _ (.ow d) H' Hi' Γ2 (f2.trans L.e) ⟨c4.len, _, c4.push2 (x := some (.ref p)) (l := [p]) (s := .ow d) ⟨p, rfl, rfl, ow, n2⟩ fun a ha => ?_⟩ q
      have : a = p := by simpa using ha
      subst this
      exact ⟨hn, fun j hj hm => by obtain ⟨o, z⟩ := c2.trk hj hm; rw [h0] at z; cases z⟩
    | op t d =>
      obtain ⟨ht, p, fp2, rfl, okk, hn⟩ := ra
      obtain ⟨fpc, c2⟩ := c2
      have c4 := c2.grow (fun a o h => L.keep a o h (fun z => nomatch z)) L.e L.imm L.ov
      refine hQ _ (.op t d) H' Hi' Γ2 (f2.trans L.e) ⟨c4.len, _, c4.push2 (x := some (.ref p)) (l := fp2) (s := .op t d) ⟨p, rfl, okk, fun a ha => .inl (c2.fresh (hn a ha).2.1).2, fun q hq => by omega⟩ fun a ha => ?_⟩ q
      exact ⟨(hn a ha).1, fun j hj hm => by obtain ⟨o, z⟩ := c2.trk hj hm; rw [(hn a ha).2.1] at z; cases z⟩
  · have c3 := c2.grow (fun a o h => L.keep a o h (fun z => nomatch z)) L.e L.imm L.ov
    exact hX x cl d H' Hi' Γ2 (f2.trans L.e) c3 hx q
def hand (t : Nat) : Nat := t % 10
theorem hand_lt (t : Nat) : hand t < 10 := Nat.mod_lt _ (by decide)
def ioW (i : Nat) (Γ : Ev) (k : Sl → (Option Sl → Ev) → Prop) : Prop := match Γ[i]? with
  | some (.ow d) => k (.io d) fun s => match s with
    | some (.io d') => Γ.set i (.ow d')
    | _ => Γ
  | some (.io d) => k (.io d) fun s => match s with
    | some (.io d') => Γ.set i (.io d')
    | _ => Γ
  | some (.op t d) => k (.op (hand t) d) fun s => match s with
    | some (.op _ d') => Γ.set i (.op t d')
    | _ => Γ
  | _ => False
def isOwn (Γ : Ev) (i : Nat) : Prop := match Γ[i]? with
  | some (.ow _) => True
  | some (.io _) => True
  | some (.op _ _) => True
  | _ => False
theorem Core.after {C : Cf} {fpf : Nat → List Addr} {i : Nat} {p : Addr} {s0 s1 : Sl} {io' : Option Sl} {fp' : List Addr} (c : Core G C Hi σ H Γ fpf) (h : Γ[i]? = some s0) (hp : σ[i]? = some (some (.ref p))) (L : Left G Hi H [.ref p] (fpf i) Hi' H' io' fp')
    (ok : SlOk G C Hi' H' (some (.ref p)) fp' s1) : Core G C Hi' σ H' (Γ.set i s1) (fun j => if j = i then fp' else fpf j) := by
  have hi : i < Γ.length := (List.getElem?_eq_some_iff.mp h).1
  have hs : σ.set i (some (.ref p)) = σ := by
    obtain ⟨hl, e1⟩ := List.getElem?_eq_some_iff.mp hp
    rw [← e1]; exact List.set_getElem_self hl
  have st := c.step (H' := H') (Hi' := Hi') (x := some (.ref p)) (l := fp') (s := s1) hi L.e (fun a o h n => L.keep a o h n) (fun a ha => by
      obtain ⟨o, z⟩ := c.trk hi ha
      exact L.live a (by rw [z]; simp)) L.imm
    (fun a o z => by
      rcases L.ov a o z with q | q
      · exact .inl q
      · exact .inr (c.fresh q).2) ok
    (fun a ha => ⟨(L.cells a ha).1, fun j hj hne hm => by
      rcases (L.cells a ha).2 with q | q
      · exact hne (c.dj j i a hj hi hm q)
      · obtain ⟨o, z⟩ := c.trk hj hm
        rw [q] at z; cases z⟩)
    (fun j a hj hne hm => by
      cases q : Hi' a with
      | none => rfl
      | some o =>
        rcases L.ov a o q with z | z
        · rw [c.av j a hj hm] at z; cases z
        · obtain ⟨u, hu⟩ := c.trk hj hm
          rw [z] at hu; cases hu)
  rw [hs] at st
  exact st
theorem Core.ioAt {C : Cf} {fpf : Nat → List Addr} {i : Nat} {k : Sl → (Option Sl → Ev) → Prop} (c : Core G C Hi σ H Γ fpf) (h : ioW i Γ k) : ∃ p s0 s f, Γ[i]? = some s0 ∧ σ[i]? = some (some (.ref p)) ∧ IoAt G Hi H (some s) [.ref p] (fpf i) ∧ k s f ∧
    ∀ Hi' H' io' fp', Left G Hi H [.ref p] (fpf i) Hi' H' io' fp' → SameIo (some s) io' → Core G C Hi' σ H' (f io') (fun j => if j = i then fp' else fpf j) := by
  unfold ioW at h
  split at h
  · rename_i d e
    obtain ⟨x, hx, p, hf, e1, ow, h0⟩ := c.sl i _ e
    subst e1
    refine ⟨p, _, .io d, _, e, hx, ⟨p, rfl, hf, ow⟩, h, fun Hi' H' io' fp' L si => ?_⟩
    cases io' with
    | none => exact si.elim
    | some s =>
      cases s with
      | io d' =>
        obtain ⟨p', e2, e3, ow'⟩ := L.at_
        cases e2
        exact c.after e hx L ⟨p, e3, rfl, ow', h0⟩
      | _ => exact si.elim
  · rename_i d e
    obtain ⟨x, hx, p, hf, e1, ow, h0⟩ := c.sl i _ e
    subst e1
    refine ⟨p, _, .io d, _, e, hx, ⟨p, rfl, hf, ow⟩, h, fun Hi' H' io' fp' L si => ?_⟩
    cases io' with
    | none => exact si.elim
    | some s =>
      cases s with
      | io d' =>
        obtain ⟨p', e2, e3, ow'⟩ := L.at_
        cases e2
        exact c.after e hx L ⟨p, e3, rfl, ow', h0⟩
      | _ => exact si.elim
  · rename_i t d e
    obtain ⟨x, hx, p, e1, ok, hm, hpa⟩ := c.sl i _ e
    subst e1
    have hi : i < Γ.length := (List.getElem?_eq_some_iff.mp e).1
    refine ⟨p, _, .op (hand t) d, _, e, hx, ⟨hand_lt t, p, rfl, G.Op.hnd.mp ok⟩, h, fun Hi' H' io' fp' L si => ?_⟩
    cases io' with
    | none => exact si.elim
    | some s =>
      cases s with
      | op t' d' =>
        have si : hand t = t' := si
        subst si
        obtain ⟨_, p', e2, ok'⟩ := L.at_
        cases e2
        refine c.after e hx L ⟨p, rfl, G.Op.hnd.mpr ok', fun a ha => ?_, hpa⟩
        rcases (L.cells a ha).2 with q | q
        · exact hm a q
        · exact .inl (c.fresh q).2
      | _ => exact si.elim
  · exact h.elim
def wCallIo (fs : FS) (i : Nat) (dv : List D) (wa : WA) : WE := fun Γ Q X => isOwn Γ i ∧ wa Γ (fun rs Γ1 => frAll rs Γ1 fun ds Γ2 => ioW i Γ2 fun s f => fs (some s) (ds ++ dv) (fun r io => SameIo (some s) io ∧ Q r (f io)) fun x io => SameIo (some s) io ∧ X x (f io)) X
theorem sim_callIoSD {fs : FS} {ta : TA} {wa : WA} {dvs : List V} {dv : List D} (i : Nat) (hd : ∀ Hi, Reps G.K Hi dvs dv) (ha : SimA G W ta wa) : SimE G W (tCallSD (lift G fs) dvs (L2.WE W) (tCons (tVar i) ta)) (wCallIo fs i dv wa) := by
  intro C Hi σ H Γ Q Qd Xd c hw hQ hX
  obtain ⟨ho, hw⟩ := hw
  have hp : ∃ p, σ[i]? = some (some (.ref p)) := by
    obtain ⟨fpc, c⟩ := c
    unfold isOwn at ho
    split at ho
    · rename_i d e
      obtain ⟨x, hx, p, _, e1, _⟩ := c.sl i _ e
      exact ⟨p, by rw [hx, e1]⟩
    · rename_i d e
      obtain ⟨x, hx, p, _, e1, _⟩ := c.sl i _ e
      exact ⟨p, by rw [hx, e1]⟩
    · rename_i t d e
      obtain ⟨x, hx, p, e1, _⟩ := c.sl i _ e
      exact ⟨p, by rw [hx, e1]⟩
    · exact ho.elim
  obtain ⟨p, hp⟩ := hp
  refine ⟨_, hp, ha C Hi σ H Γ _ _ Xd c hw (fun vs rs H1 Hi1 Γ1 e1 c1 h1 q1 => ?_) hX⟩
  obtain ⟨ds, Hi2, Γ2, e2, c2, rp, q2⟩ := h1.share (Ext.refl _) c1 q1
  have f2 := e1.trans e2
  obtain ⟨fpc, c2⟩ := c2
  obtain ⟨p', s0, s, f, hs0, hp', hio, q3, back⟩ := c2.ioAt q2
  rw [hp] at hp'; cases hp'
  have hi : i < Γ2.length := (List.getElem?_eq_some_iff.mp hs0).1
  refine ⟨some s, ds ++ dv, Hi2, _, _, [.ref p], vs ++ dvs, fpc i, rfl, hio, rp.append (hd Hi2), c2.imm, fun a ha => c2.av i a hi ha, q3, fun v r H' Hi' io' fp' L ra ⟨si, q⟩ => ?_, fun x cl d H' Hi' io' fp' L hx ⟨si, q⟩ => ?_⟩
  · have c3 := back _ _ _ _ L si
    cases r with
    | sh d => exact hQ v (.sh d) H' Hi' _ (f2.trans L.e) ⟨⟨_, c3⟩, ra⟩ q
    | vr i => exact ra.elim
    | ow d =>
      obtain ⟨p2, rfl, ow, hn, h0, hnf⟩ := ra
      obtain ⟨n1, n2⟩ := c2.fresh h0
      have hfl : (f io').length = Γ2.length := by rw [c3.len, c2.len]
      refine hQ _ (.ow d) H' Hi' _ (f2.trans L.e) ⟨c3.len, _, c3.push2 (x := some (.ref p2)) (l := [p2]) (s := .ow d) ⟨p2, rfl, rfl, ow, n2⟩ fun a ha => ?_⟩ q
      have : a = p2 := by simpa using ha
      subst this
      refine ⟨hn, fun j hj hm => ?_⟩
      by_cases hji : j = i
      · rw [if_pos hji] at hm; exact hnf hm
      · rw [if_neg hji] at hm
        obtain ⟨o, z⟩ := c2.trk (by rw [hfl] at hj; exact hj) hm; rw [h0] at z; cases z
    | op t d =>
      obtain ⟨ht, p2, fp2, rfl, okk, hn⟩ := ra
      have hfl : (f io').length = Γ2.length := by rw [c3.len, c2.len]
      refine hQ _ (.op t d) H' Hi' _ (f2.trans L.e) ⟨c3.len, _, c3.push2 (x := some (.ref p2)) (l := fp2) (s := .op t d) ⟨p2, rfl, okk, fun a ha => .inl (c2.fresh (hn a ha).2.1).2, fun q hq => by omega⟩ fun a ha => ?_⟩ q
      refine ⟨(hn a ha).1, fun j hj hm => ?_⟩
      by_cases hji : j = i
      · rw [if_pos hji] at hm; exact (hn a ha).2.2 hm
      · rw [if_neg hji] at hm
        obtain ⟨o, z⟩ := c2.trk (by rw [hfl] at hj; exact hj) hm; rw [(hn a ha).2.1] at z; cases z
  · exact hX x cl d H' Hi' _ (f2.trans L.e) ⟨_, back _ _ _ _ L si⟩ hx q
end
end VL

set_option Elab.async false
set_option linter.all false
set_option maxRecDepth 100000
namespace VL
open PySem L2

structure DE (X : Cx) (G : Gb) (W : WX) (e : Expr) (t : TE) (w : WE) : Prop where
  pe : PE X e t
  sim : SimE G W t w
structure DT (X : Cx) (G : Gb) (W : WX) (e : Expr) (t : TT) (w : WT) : Prop where
  pe : PT X e t
  sim : SimT G W t w
structure DW (X : Cx) (G : Gb) (W : WX) (e : Expr) (t : TT) (w : WT) : Prop where
  pe : PW X e t
  sim : SimT G W t w
structure DA (X : Cx) (G : Gb) (W : WX) (es : List Expr) (t : TA) (w : WA) : Prop where
  pe : PA X es t
  sim : SimA G W t w
structure DSl (X : Cx) (G : Gb) (W : WX) (es : List Expr) (t : TA) (w : WSl) : Prop where
  pe : PA X es t
  sim : SimSl G W t w
structure DO (X : Cx) (G : Gb) (W : WX) (e : Option Expr) (t : TO) (w : WO) : Prop where
  pe : PO X e t
  sim : SimO G W t w
structure DS (X : Cx) (G : Gb) (W : WX) (e : Stmt) (t : TS) (w : WS) : Prop where
  pe : PS X e t
  sim : SimS G W t w
structure DB (X : Cx) (G : Gb) (W : WX) (e : List Stmt) (t : TS) (w : WS) : Prop where
  pe : PSs X e t
  sim : SimS G W t w
structure DI (X : Cx) (G : Gb) (W : WX) (tg e : Expr) (t : TI) (w : WI) : Prop where
  pe : PI X tg e t
  sim : SimI G W t w
structure DG (X : Cx) (G : Gb) (e : Expr) (t : TG) (w : WG) : Prop where
  pe : PG X e t
  sim : SimG G t w
structure DGs (X : Cx) (G : Gb) (e : List Expr) (t : TGs) (w : WGs) : Prop where
  pe : PGs X e t
  sim : SimGs G t w
structure DGw (X : Cx) (G : Gb) (vs : List Nat) (e : Expr) (t : TG) (w : WG) : Prop where
  pe : PG X e t
  sim : SimGw G t w vs
structure DGsw (X : Cx) (G : Gb) (vs : List Nat) (e : List Expr) (t : TGs) (w : WGs) : Prop where
  pe : PGs X e t
  sim : SimGsw G t w vs
structure DTs (X : Cx) (G : Gb) (W : WX) (e : List Expr) (t : TT) (w : WT) : Prop where
  pe : PTs X e t
  sim : SimT G W t w

section
variable {X : Cx} {G : Gb} {W : WX} {a b c e o i : Expr} {es : List Expr} {ta tb tc te to ti : TE} {wa wb wc we wo wi : WE} {pos pos' p p2 p3 : Pos} {t : TA} {w : WA}

theorem dv (i : Nat) {x : Str} (hN : X.N[i]? = some x := by rfl) (hv : Vis X.env.scope x := by first | exact Or.inl rfl | exact Or.inr (Or.inl rfl) | exact Or.inr (Or.inr rfl)) (hd : (x == ("__debug__" : Str)) = false := by decide)
    (hcd : (x == ("__classdict__" : Str)) = false := by decide) : DE X G W (.Name x pos) (tVar i) (wVar i) := ⟨pe_var hN hv hd hcd, sim_var i⟩
theorem de_int {i : Int} {j : Nat} : DE X G W (.Constant (.int i) j pos) (tC (.int i)) (wC (.int i)) := ⟨pe_int, sim_c fun _ => .int i⟩
theorem de_bl {i : Bool} {j : Nat} : DE X G W (.Constant (.bool i) j pos) (tC (.bl i)) (wC (.bool i)) := ⟨pe_bl, sim_c fun _ => .bl i⟩
theorem de_non {j : Nat} : DE X G W (.Constant .none j pos) (tC .non) (wC .none) := ⟨pe_non, sim_c fun _ => .non⟩
theorem de_str {i : Str} {j : Nat} : DE X G W (.Constant (.str i) j pos) (tC (.str i)) (wC (.str i)) := ⟨pe_str, sim_c fun _ => .str i⟩
theorem de_gstr {x z : Str} (h : ∃ t, X.mg x = some (.str z t)) (hg : Gl X x := by rfl) (hd : (x == ("__debug__" : Str)) = false := by decide) : DE X G W (.Name x pos) (tC (.str z)) (wC (.str z)) :=
  ⟨let ⟨t, h⟩ := h; pe_glob hg h ⟨t, rfl⟩ hd, sim_c fun _ => .str z⟩
theorem de_gint {x : Str} {z : Int} (h : ∃ t, X.mg x = some (.int z t)) (hg : Gl X x := by rfl) (hd : (x == ("__debug__" : Str)) = false := by decide) : DE X G W (.Name x pos) (tC (.int z)) (wC (.int z)) :=
  ⟨let ⟨t, h⟩ := h; pe_glob hg h ⟨t, rfl⟩ hd, sim_c fun _ => .int z⟩

theorem de_op {op : Operator} {r : R2} {f : Op2} (ho : OpR X (binaryOp op) r) (hs : Sem2 G r f) (ha : DE X G W a ta wa) (hb : DE X G W b tb wb) : DE X G W (.BinOp a op b pos) (tOp r ta tb) (wOp f wa wb) := ⟨pe_op ho ha.pe hb.pe, sim_op hs ha.sim hb.sim⟩
theorem de_add (hK : X.K = G.K) (ha : DE X G W a ta wa) (hb : DE X G W b tb wb) : DE X G W (.BinOp a .Add b pos) (tOp (rAddA G.K) ta tb) (wOp oAdd wa wb) := de_op (by rw [← hK]; exact op_addA) sem_add ha hb
theorem de_sub (ha : DE X G W a ta wa) (hb : DE X G W b tb wb) : DE X G W (.BinOp a .Sub b pos) (tOp (rI0 fun i j => .int (i - j)) ta tb) (wOp (oII (fun _ _ => True) (· - ·)) wa wb) := de_op op_sub sem_sub ha hb
theorem de_mul (ha : DE X G W a ta wa) (hb : DE X G W b tb wb) : DE X G W (.BinOp a .Mult b pos) (tOp rMulA ta tb) (wOp oMul wa wb) := de_op op_mulA sem_mul ha hb
theorem de_fdiv (ha : DE X G W a ta wa) (hb : DE X G W b tb wb) : DE X G W (.BinOp a .FloorDiv b pos) (tOp (rI CDivW fun i j => .int (i / j)) ta tb) (wOp (oII CDivW (· / ·)) wa wb) := de_op op_fdivW sem_fdiv ha hb
theorem de_mod (ha : DE X G W a ta wa) (hb : DE X G W b tb wb) : DE X G W (.BinOp a .Mod b pos) (tOp (rI (fun _ j => 0 < j) fun i j => .int (i % j)) ta tb) (wOp (oII (fun _ j => 0 < j) (· % ·)) wa wb) := de_op op_mod sem_mod ha hb
theorem de_neg (ha : DE X G W a ta wa) : DE X G W (.UnaryOp .USub a pos) (tUn (rU fun i => .int (-i)) ta) (wUn (fun a k => isI a fun i => k (.sh (.int (-i)))) wa) := ⟨pe_un un_neg ha.pe, sim_un sem_neg ha.sim⟩
structure C2 (X : Cx) (G : Gb) (op : CmpOp) (r : R2) (f : Op2) : Prop where
  op : OpR X (compareOp op) r
  sem : Sem2 G r f
theorem c_lt : C2 X G .Lt (rI0 fun i j => .bl (decide (i < j))) (oIB fun i j => decide (i < j)) := ⟨op_lt, sem_IB⟩
theorem c_le : C2 X G .LtE (rI0 fun i j => .bl (decide (i ≤ j))) (oIB fun i j => decide (i ≤ j)) := ⟨op_le, sem_IB⟩
theorem c_gt : C2 X G .Gt (rI0 fun i j => .bl (decide (j < i))) (oIB fun i j => decide (j < i)) := ⟨op_gt, sem_IB⟩
theorem c_ge : C2 X G .GtE (rI0 fun i j => .bl (decide (j ≤ i))) (oIB fun i j => decide (j ≤ i)) := ⟨op_ge, sem_IB⟩
theorem c_eq (hK : X.K = G.K) (hu : X.A.units + 65 < cLine) : C2 X G .Eq (rEqD G.K) oEq := ⟨by rw [← hK]; exact op_eqD (by omega), sem_eq⟩
theorem c_ne (hK : X.K = G.K) (hu : X.A.units + 65 < cLine) : C2 X G .NotEq (rNeD G.K) oNe := ⟨by rw [← hK]; exact op_neD (by omega), sem_ne⟩
theorem c_in (hK : X.K = G.K) (hu : X.A.units + 65 < cLine) : C2 X G .In (rInA G.K) (oIn false) := ⟨by rw [← hK]; exact op_inA hu, sem_in⟩
theorem c_notin (hK : X.K = G.K) (hu : X.A.units + 65 < cLine) : C2 X G .NotIn (rNotInA G.K) (oIn true) := ⟨by rw [← hK]; exact op_notInA hu, sem_notin⟩
theorem c_isN : C2 X G .Is (fun x y H Q => y = .non ∧ Q (.bl (decide (x = .non))) H) oIsN := ⟨op_isN, sem_isN⟩
theorem de_cmp {op : CmpOp} {r : R2} {f : Op2} (h : C2 X G op r f) (ha : DE X G W a ta wa) (hb : DE X G W b tb wb) (hm : behindInMarks op b = false := by first | exact nobehind _ (by decide) (by decide) | rfl) : DE X G W (.Compare a [op] [b] pos) (tOp r ta tb) (wOp f wa wb) :=
  ⟨pe_cmpR h.op ha.pe hb.pe hm, sim_op h.sem ha.sim hb.sim⟩
theorem dt_cmp {op : CmpOp} {r : R2} {f : Op2} (h : C2 X G op r f) (ha : DE X G W a ta wa) (hb : DE X G W b tb wb) (hm : behindInMarks op b = false := by first | exact nobehind _ (by decide) (by decide) | rfl) : DT X G W (.Compare a [op] [b] pos) (tTest (tOp r ta tb)) (wT (wOp f wa wb)) :=
  ⟨pt_cmpR h.op ha.pe hb.pe hm, sim_tTest (sim_op h.sem ha.sim hb.sim)⟩
theorem dt_chain {op op' : CmpOp} {r r' : R2} {f f' : Op2} (h : C2 X G op r f) (h' : C2 X G op' r' f') (ha : DE X G W a ta wa) (hb : DE X G W b tb wb) (hc : DE X G W c tc wc) (hl : lastMarks [op, op'] [b, c] = false := by with_unfolding_all rfl) :
    DT X G W (.Compare a [op, op'] [b, c] pos) (tTest (tChain r r' ta tb tc)) (wT (wChain f f' wa wb wc)) := ⟨pt_chain h.op h'.op ha.pe hb.pe hc.pe hl, sim_tTest (sim_chain h.sem h'.sem ha.sim hb.sim hc.sim)⟩

variable {rest : List Expr} {tt tu : TT} {wt wu : WT}
theorem de_one {op : BoolOp} (h : DE X G W a ta wa) : DE X G W (.BoolOp op [a] pos) ta wa := ⟨pe_one h.pe, h.sim⟩
theorem de_and (ha : DE X G W a ta wa) (hb : DE X G W (.BoolOp .And (b :: rest) pos) tb wb) : DE X G W (.BoolOp .And (a :: b :: rest) pos) (tAndV ta tb) (wAndV wa wb) := ⟨pe_and ha.pe hb.pe, sim_andV ha.sim hb.sim⟩
theorem de_or (ha : DE X G W a ta wa) (hb : DE X G W (.BoolOp .Or (b :: rest) pos) tb wb) : DE X G W (.BoolOp .Or (a :: b :: rest) pos) (tOrV ta tb) (wOrV wa wb) := ⟨pe_or ha.pe hb.pe, sim_orV ha.sim hb.sim⟩
theorem de_not (ha : DE X G W a ta wa) : DE X G W (.UnaryOp .Not a pos) (tNotV ta) (wNotV wa) := ⟨pe_not ha.pe, sim_notV ha.sim⟩
theorem dt_val (ha : DE X G W a ta wa) (he : ∀ whole, isTrue a X.env whole = (do let v ← whole; standAt a.pos; holding [v] (truthy v)) := by intro _; rfl) : DT X G W a (tB ta) (wT wa) := ⟨pt_val ha.pe he, sim_tB ha.sim⟩
theorem dt_not (ha : DT X G W a tt wt) : DT X G W (.UnaryOp .Not a pos) (tNot tt) (wNot wt) := ⟨pt_not ha.pe, sim_not ha.sim⟩
theorem dw_and1 (ha : DT X G W a tt wt) : DW X G W (.BoolOp .And [a] pos) tt wt := ⟨pw_and1 ha.pe, ha.sim⟩
theorem dw_or1 (ha : DT X G W a tt wt) : DW X G W (.BoolOp .Or [a] pos) tt wt := ⟨pw_or1 ha.pe, ha.sim⟩
theorem dw_and (ha : DT X G W a tt wt) (hb : DW X G W (.BoolOp .And (b :: rest) pos) tu wu) : DW X G W (.BoolOp .And (a :: b :: rest) pos) (tAnd tt tu) (wAnd wt wu) := ⟨pw_and ha.pe hb.pe, sim_and ha.sim hb.sim⟩
theorem dw_or (ha : DT X G W a tt wt) (hb : DW X G W (.BoolOp .Or (b :: rest) pos) tu wu) : DW X G W (.BoolOp .Or (a :: b :: rest) pos) (tOr tt tu) (wOr wt wu) := ⟨pw_or ha.pe hb.pe, sim_or ha.sim hb.sim⟩
theorem dt_chn (h : DW X G W a tt wt) : DT X G W a tt wt := ⟨PW.pt h.pe, h.sim⟩
theorem de_if (hc : DT X G W c tt wt) (ha : DE X G W a ta wa) (hb : DE X G W b tb wb) : DE X G W (.IfExp c a b pos) (tIf tt ta tb) (wIf wt wa wb) := ⟨pe_ifExp hc.pe ha.pe hb.pe, sim_if hc.sim ha.sim hb.sim⟩

theorem da_nil : DA X G W [] tNil wNil := ⟨pa_nil, sim_nil⟩
theorem da_cons (he : DE X G W e te we) (hr : DA X G W es t w) (hs : starEach (e :: es) X.env = (false, eval e X.env) :: starEach es X.env := by rfl) : DA X G W (e :: es) (tCons te t) (wCons we w) := ⟨pa_cons he.pe hr.pe hs, sim_cons he.sim hr.sim⟩
theorem dl_nil : DSl X G W [] tNil wsNil := ⟨pa_nil, sims_nil⟩
theorem dl_cons {ws : WSl} (he : DE X G W e te we) (hr : DSl X G W es t ws) (hs : starEach (e :: es) X.env = (false, eval e X.env) :: starEach es X.env := by rfl) : DSl X G W (e :: es) (tCons te t) (wsCons we ws) := ⟨pa_cons he.pe hr.pe hs, sims_cons he.sim hr.sim⟩
theorem de_tup {x1 : Nat} (h : DA X G W es t w) : DE X G W (.Tuple es x1 pos) (tTup t) (wTup w) := ⟨pe_tup h.pe, sim_tup h.sim⟩
theorem de_lst (h : DA X G W es t w) : DE X G W (.List es pos) (tLst t) (wLst w) := ⟨pe_lst h.pe, sim_lst h.sim⟩
theorem de_dict0 : DE X G W (.Dict [] [] pos) tDNewK wDict0 := ⟨pe_dnewK, sim_dict0⟩
theorem de_ix (hK : X.K = G.K) (hu : X.A.units + 65 < cLine) (ha : DE X G W a ta wa) (hb : DE X G W b tb wb) (hs : PlainIx b := by intro _ _; rfl) : DE X G W (.Subscript a b pos) (tOp (rIxA G.K) ta tb) (wOp oIx wa wb) :=
  ⟨pe_ix (by rw [← hK]; exact ix_any (by omega)) ha.pe hb.pe hs, sim_op sem_ix ha.sim hb.sim⟩
theorem do_none : DO X G W none tNoPart wNoP := ⟨po_none, simo_none⟩
theorem do_some (h : DE X G W a ta wa) : DO X G W (some a) (tPart ta) (wPart wa) := ⟨po_some h.pe, simo_some h.sim⟩
theorem de_slL {lo hi : Option Expr} {tl th : TO} {wl wh : WO} (hK : X.K = G.K) (ha : DE X G W a ta wa) (hl : DO X G W lo tl wl) (hh : DO X G W hi th wh) : DE X G W (.Subscript a (.Slice lo hi none p2) pos) (tSl (rSlL G.K) ta tl th) (wSlL wa wl wh) :=
  ⟨pe_slice (by rw [← hK]; exact sl_list) ha.pe hl.pe hh.pe, sim_slL ha.sim hl.sim hh.sim⟩

theorem de_cb {x : Str} {id : String} {r : List V → Hp → VK → Prop} {f : OpN} (hc : CallR X (.builtin id) r) (hs : SemN G r f) (hg : Gl X x) (hm : X.mg x = none) (hv : bootBuiltins x = some (.builtin id)) (ha : DA X G W (e :: es) t w) (hn : x ≠ "__name__" := by decide)
    (hdb : (x == ("__debug__" : Str)) = false := by decide) (he : starEach (e :: es) X.env = (false, eval e X.env) :: starEach es X.env := by rfl) (hpl : (backTo pos (starEach es X.env)).any (·.1) = false := by rfl) :
    DE X G W (.Call (.Name x p) (e :: es) [] pos) (tCB r t) (wCB f w) := ⟨pe_callB hc hg hm hv ha.pe hn hdb he hpl, sim_cb hs ha.sim⟩
theorem de_ct {x : Str} {id : String} {r : List V → Hp → VK → Prop} {f : OpN} (hc : CallR X (.type id) r) (hs : SemN G r f) (hg : Gl X x) (hm : X.mg x = none) (hv : bootBuiltins x = some (.type id)) (ha : DA X G W (e :: es) t w) (hn : x ≠ "__name__" := by decide)
    (hdb : (x == ("__debug__" : Str)) = false := by decide) (he : starEach (e :: es) X.env = (false, eval e X.env) :: starEach es X.env := by rfl) (hpl : (backTo pos (starEach es X.env)).any (·.1) = false := by rfl) :
    DE X G W (.Call (.Name x p) (e :: es) [] pos) (tCB r t) (wCB f w) := ⟨pe_callTy hc hg hm hv ha.pe hn hdb he hpl, sim_cb hs ha.sim⟩
structure B1 (X : Cx) (G : Gb) (id : String) (r : List V → Hp → VK → Prop) (f : OpN) : Prop where
  c : CallR X (.builtin id) r
  s : SemN G r f
structure T1 (X : Cx) (G : Gb) (id : String) (r : List V → Hp → VK → Prop) (f : OpN) : Prop where
  c : CallR X (.type id) r
  s : SemN G r f
theorem b_len (hK : X.K = G.K) : B1 X G "len" (rLenA G.K) (o1 oLen) := ⟨by rw [← hK]; exact call_lenA, sem_len⟩
theorem b_all (hK : X.K = G.K) (hc : X.calm = true) : B1 X G "all" (rAll G.K) (o1 oAll) := ⟨by rw [← hK]; exact cr_all hc, sem_all⟩
theorem b_any (hK : X.K = G.K) (hc : X.calm = true) : B1 X G "any" (rAny G.K) (o1 oAny) := ⟨by rw [← hK]; exact cr_any hc, sem_any⟩
theorem b_max (hc : X.calm = true) : B1 X G "max" rMax2A (o2 oMax) := ⟨call_max2A hc, sem_max⟩
theorem b_min (hc : X.calm = true) : B1 X G "min" rMin2A (o2 oMin) := ⟨call_min2A hc, sem_min⟩
theorem t_int : T1 X G "int" rIntA (o1 oInt) := ⟨call_intA, sem_int⟩
theorem t_list (hK : X.K = G.K) : T1 X G "list" (rListA G.K) (o1 oList) := ⟨by rw [← hK]; exact call_listA, sem_list⟩
theorem de_b {x : Str} {id : String} {r : List V → Hp → VK → Prop} {f : OpN} (h : B1 X G id r f) (hm : X.mg x = none) (ha : DA X G W (e :: es) t w) (hg : Gl X x := by rfl) (hv : bootBuiltins x = some (.builtin id) := by decide +kernel) (hn : x ≠ "__name__" := by decide)
    (hdb : (x == ("__debug__" : Str)) = false := by decide) (he : starEach (e :: es) X.env = (false, eval e X.env) :: starEach es X.env := by rfl) (hpl : (backTo pos (starEach es X.env)).any (·.1) = false := by rfl) :
    DE X G W (.Call (.Name x p) (e :: es) [] pos) (tCB r t) (wCB f w) := de_cb h.c h.s hg hm hv ha hn hdb he hpl
theorem de_t {x : Str} {id : String} {r : List V → Hp → VK → Prop} {f : OpN} (h : T1 X G id r f) (hm : X.mg x = none) (ha : DA X G W (e :: es) t w) (hg : Gl X x := by rfl) (hv : bootBuiltins x = some (.type id) := by decide +kernel) (hn : x ≠ "__name__" := by decide)
    (hdb : (x == ("__debug__" : Str)) = false := by decide) (he : starEach (e :: es) X.env = (false, eval e X.env) :: starEach es X.env := by rfl) (hpl : (backTo pos (starEach es X.env)).any (·.1) = false := by rfl) :
    DE X G W (.Call (.Name x p) (e :: es) [] pos) (tCB r t) (wCB f w) := de_ct h.c h.s hg hm hv ha hn hdb he hpl
theorem de_isi {T : String} {y : Str} (hK : X.K = G.K) (hT : KitOk T) (hm : X.mg "isinstance" = none) (hm2 : X.mg y = none) (ha : DE X G W a ta wa) (hv2 : bootBuiltins y = some (.type T) := by decide +kernel) (hg : Gl X "isinstance" := by rfl) (hg2 : Gl X y := by rfl)
    (hn2 : y ≠ "__name__" := by decide) (hd2 : (y == ("__debug__" : Str)) = false := by decide) (he : starEach [a, .Name y p2] X.env = (false, eval a X.env) :: starEach [.Name y p2] X.env := by rfl) (he2 : starEach [.Name y p2] X.env = (false, eval (.Name y p2) X.env) :: starEach [] X.env := by rfl) (hpl : (backTo pos (starEach [.Name y p2] X.env)).any (·.1) = false := by rfl) :
    DE X G W (.Call (.Name "isinstance" p) [a, .Name y p2] [] pos) (tCB (rIsi G.K) (tCons ta (tCons (tC (.ty T)) tNil))) (wIsi T wa) :=
  ⟨pe_callB (by rw [← hK]; exact call_isi) hg hm (by decide +kernel) (pa_cons ha.pe (pa_cons (pe_bltn hg2 hm2 hv2 rfl hn2 hd2) pa_nil he2) he) (by decide) (by decide) he hpl, sim_isi hT ha.sim⟩

theorem de_isi2 {T U : String} {y z : Str} {kk : Nat} {pt q2 q3 : Pos} (hK : X.K = G.K) (hT : KitOk T) (hU : KitOk U) (hm : X.mg "isinstance" = none) (hm2 : X.mg y = none) (hm3 : X.mg z = none) (ha : DE X G W a ta wa) (hv2 : bootBuiltins y = some (.type T) := by decide +kernel) (hv3 : bootBuiltins z = some (.type U) := by decide +kernel)
    (hg : Gl X "isinstance" := by rfl) (hg2 : Gl X y := by rfl) (hg3 : Gl X z := by rfl) (hn2 : y ≠ "__name__" := by decide) (hd2 : (y == ("__debug__" : Str)) = false := by decide) (hn3 : z ≠ "__name__" := by decide) (hd3 : (z == ("__debug__" : Str)) = false := by decide)
    (he : starEach [a, .Tuple [.Name y q2, .Name z q3] kk pt] X.env = (false, eval a X.env) :: starEach [.Tuple [.Name y q2, .Name z q3] kk pt] X.env := by rfl) (he2 : starEach [.Tuple [.Name y q2, .Name z q3] kk pt] X.env = (false, eval (.Tuple [.Name y q2, .Name z q3] kk pt) X.env) :: starEach [] X.env := by rfl)
    (he3 : starEach [.Name y q2, .Name z q3] X.env = (false, eval (.Name y q2) X.env) :: starEach [.Name z q3] X.env := by rfl) (he4 : starEach [.Name z q3] X.env = (false, eval (.Name z q3) X.env) :: starEach [] X.env := by rfl) (hpl : (backTo pos (starEach [.Tuple [.Name y q2, .Name z q3] kk pt] X.env)).any (·.1) = false := by rfl) :
    DE X G W (.Call (.Name "isinstance" p) [a, .Tuple [.Name y q2, .Name z q3] kk pt] [] pos) (tCB (rIsiT G.K) (tCons ta (tCons (tTup (tCons (tC (.ty T)) (tCons (tC (.ty U)) tNil))) tNil))) (wIsi2 T U wa) :=
  ⟨pe_callB (by rw [← hK]; exact call_isiT) hg hm (by decide +kernel) (pa_cons ha.pe (pa_cons (pe_tup (pa_cons (pe_bltn hg2 hm2 hv2 rfl hn2 hd2) (pa_cons (pe_bltn hg3 hm3 hv3 rfl hn3 hd3) pa_nil he4) he3)) pa_nil he2) he) (by decide) (by decide) he hpl, sim_isi2 hT hU ha.sim⟩

theorem de_append (hK : X.K = G.K) (i : Nat) {x : Str} {apos : Pos} (he : DE X G W e te we) (hN : X.N[i]? = some x := by rfl) (hv : Vis X.env.scope x := by first | exact Or.inl rfl | exact Or.inr (Or.inl rfl) | exact Or.inr (Or.inr rfl)) (hd : (x == ("__debug__" : Str)) = false := by decide)
    (hcd : (x == ("__classdict__" : Str)) = false := by decide) (h1 : attributeBase (.Name x p) "append" X.env (eval (.Name x p) X.env) = eval (.Name x p) X.env := by rfl)
    (h2 : (((backTo pos (starEach (e :: []) X.env)).all fun x => !x.fst) && (backToKw pos (keywordEach [] X.env)).all (fun x => x.fst.isSome) && decide (((e :: ([] : List Expr)).length + ([] : List Keyword).length + if ([] : List Keyword).isEmpty = true then 0 else 1) < 30)) = true := by rfl)
    (h3 : (apos.endLine == pos.line) = true := by rfl) (h4 : starEach (e :: []) X.env = (false, eval e X.env) :: starEach [] X.env := by rfl) (h5 : (backTo pos (starEach [] X.env)).any (·.1) = false := by rfl) :
    DE X G W (.Call (.Attribute (.Name x p) "append" apos) [e] [] pos) (tBM G.K "list" rAppend (tVar i) (tCons te tNil)) (wMut i fAppend (wCons we wNil)) :=
  ⟨by rw [← hK]; exact pe_bm PySem.F.plainAttrs_list PySem.F.slot_list_append PySem.F.type_list_append mt_append (pe_var hN hv hd hcd) (pa_cons he.pe pa_nil h4) h1 h2 h3 h4 h5, sim_mut i sem_append (sim_cons he.sim sim_nil)⟩

def rPopA : V → List V → Hp → VK → Prop := fun x vs H Q => rPop x vs H Q ∨ rPopAt x vs H Q
theorem de_pop1 (hK : X.K = G.K) (i : Nat) {x : Str} {apos : Pos} (he : DE X G W e te we) (hN : X.N[i]? = some x := by rfl) (hv : Vis X.env.scope x := by first | exact Or.inl rfl | exact Or.inr (Or.inl rfl) | exact Or.inr (Or.inr rfl)) (hd : (x == ("__debug__" : Str)) = false := by decide)
    (hcd : (x == ("__classdict__" : Str)) = false := by decide) (h1 : attributeBase (.Name x p) "pop" X.env (eval (.Name x p) X.env) = eval (.Name x p) X.env := by rfl)
    (h2 : (((backTo pos (starEach (e :: []) X.env)).all fun x => !x.fst) && (backToKw pos (keywordEach [] X.env)).all (fun x => x.fst.isSome) && decide (((e :: ([] : List Expr)).length + ([] : List Keyword).length + if ([] : List Keyword).isEmpty = true then 0 else 1) < 30)) = true := by rfl)
    (h3 : (apos.endLine == pos.line) = true := by rfl) (h4 : starEach (e :: []) X.env = (false, eval e X.env) :: starEach [] X.env := by rfl) (h5 : (backTo pos (starEach [] X.env)).any (·.1) = false := by rfl) :
    DE X G W (.Call (.Attribute (.Name x p) "pop" apos) [e] [] pos) (tBM G.K "list" rPopA (tVar i) (tCons te tNil)) (wMut i fPop (wCons we wNil)) :=
  ⟨by rw [← hK]; exact pe_bm PySem.F.plainAttrs_list PySem.F.slot_list_pop PySem.F.type_list_pop (MtR.or mt_pop mt_popAt) (pe_var hN hv hd hcd) (pa_cons he.pe pa_nil h4) h1 h2 h3 h4 h5, sim_mut i sem_pop (sim_cons he.sim sim_nil)⟩
def CPowW (i j : Int) : Prop := 0 ≤ j ∧ (Builtin.Int.intBits i : Int) * j ≤ 2 ^ 27
theorem op_powW : OpR X (binaryOp .Pow) (rI CPowW fun i j => .int (i ^ j.toNat)) := opI fun _ _ _ _ _ _ _ hc q => PyProof.Rows.pow_int hc.1 hc.2 q
theorem sem_powW : Sem2 G (rI CPowW fun i j => .int (i ^ j.toNat)) (oII CPowW fun i j => i ^ j.toNat) := sem_II (fun _ _ h => h) fun _ _ _ => rfl
theorem de_pow (ha : DE X G W a ta wa) (hb : DE X G W b tb wb) : DE X G W (.BinOp a .Pow b pos) (tOp (rI CPowW fun i j => .int (i ^ j.toNat)) ta tb) (wOp (oII CPowW fun i j => i ^ j.toNat) wa wb) := de_op op_powW sem_powW ha hb
def wRevL (wa : WE) : WE := fun Γ Q X => wa Γ (fun r Γ1 => rdW r Γ1 fun d => isL d fun ds => Q (.ow (.list ds.reverse)) Γ1) X

theorem hu65 {A : Around} {k : Nat} (hr : Room k A) : A.units + 65 < cLine := Nat.lt_of_le_of_lt (Nat.add_le_add_left (by omega : 65 ≤ 16 * k + 200) _) (Nat.add_assoc _ _ _ ▸ hr.un)

def Gd (P : Program) (wd : World) (G : Gb) (mg : Str → Option Value) (base : Heap) (k : Nat) (x : Str) (fs : FS) (ps : List Str) (dvs : List V) : Prop :=
  ∃ (f : Addr) (fd : FuncData), mg x = some (.ref f) ∧ PySem.W.keepIn G.K (.ref f) = true ∧ FnOk P wd G.K mg base (L2N.CX P wd) k f fd ps (lift G fs) ∧ ∃ ds, Vals dvs ds ∧ Binds G.K fd ps ds
theorem Gd.mono {P : Program} {wd : World} {mg : Str → Option Value} {base : Heap} {k k' : Nat} {x : Str} {fs : FS} {ps : List Str} {dvs : List V} (h : Gd P wd G mg base k x fs ps dvs) (l : k ≤ k') : Gd P wd G mg base k' x fs ps dvs :=
  let ⟨f, fd, h1, h2, h3, h4⟩ := h
  ⟨f, fd, h1, h2, h3.mono l, h4⟩
section
variable {k : Nat} {x : Str} {fs : FS} {ps : List Str} {dvs : List V} {dvd : List D}
theorem de_callD (hK : X.K = G.K) (F : Gd X.prog X.w G X.mg X.base k x fs ps dvs) (hr : Room k X.A) (tk : L2N.Takes X W) (hd : ∀ Hi, Reps G.K Hi dvs dvd) (ha : DA X G W (e :: es) t w) (hg : Gl X x := by rfl) (hdb : (x == ("__debug__" : Str)) = false := by decide)
    (he : starEach (e :: es) X.env = (false, eval e X.env) :: starEach es X.env := by rfl) (hpl : (backTo pos (starEach es X.env)).any (·.1) = false := by rfl) :
    DE X G W (.Call (.Name x p) (e :: es) [] pos) (tCallSD (lift G fs) dvs (L2.WE W) t) (wCall fs dvd w) := by
  obtain ⟨f, fd, h1, h2, h3, ds, h4, h5⟩ := F
  rw [← hK] at h2 h5
  refine ⟨pe_callSD ?_ hr hg h1 h2 h5 h4 (L2N.passAt tk) ha.pe hdb he hpl, sim_callSD hd ha.sim⟩
  rw [hK]; exact h3
theorem de_call (hK : X.K = G.K) (F : Gd X.prog X.w G X.mg X.base k x fs ps []) (hr : Room k X.A) (tk : L2N.Takes X W) (ha : DA X G W (e :: es) t w) (hg : Gl X x := by rfl) (hdb : (x == ("__debug__" : Str)) = false := by decide)
    (he : starEach (e :: es) X.env = (false, eval e X.env) :: starEach es X.env := by rfl) (hpl : (backTo pos (starEach es X.env)).any (·.1) = false := by rfl) :
    DE X G W (.Call (.Name x p) (e :: es) [] pos) (tCallSD (lift G fs) [] (L2.WE W) t) (wCall fs [] w) := de_callD hK F hr tk (fun _ => .nil) ha hg hdb he hpl
theorem de_callIoD (hK : X.K = G.K) (i : Nat) {y : Str} (F : Gd X.prog X.w G X.mg X.base k x fs ps dvs) (hr : Room k X.A) (tk : L2N.Takes X W) (hd : ∀ Hi, Reps G.K Hi dvs dvd) (ha : DA X G W es t w) (hN : X.N[i]? = some y := by rfl) (hv : Vis X.env.scope y := by first | exact Or.inl rfl | exact Or.inr (Or.inl rfl) | exact Or.inr (Or.inr rfl))
    (hd2 : (y == ("__debug__" : Str)) = false := by decide) (hcd : (y == ("__classdict__" : Str)) = false := by decide) (hg : Gl X x := by rfl) (hdb : (x == ("__debug__" : Str)) = false := by decide)
    (he : starEach (.Name y p2 :: es) X.env = (false, eval (.Name y p2) X.env) :: starEach es X.env := by rfl) (hpl : (backTo pos (starEach es X.env)).any (·.1) = false := by rfl) :
    DE X G W (.Call (.Name x p) (.Name y p2 :: es) [] pos) (tCallSD (lift G fs) dvs (L2.WE W) (tCons (tVar i) t)) (wCallIo fs i dvd w) := by
  obtain ⟨f, fd, h1, h2, h3, ds, h4, h5⟩ := F
  rw [← hK] at h2 h5
  refine ⟨pe_callSD ?_ hr hg h1 h2 h5 h4 (L2N.passAt tk) (pa_cons (pe_var hN hv hd2 hcd) ha.pe he) hdb he hpl, sim_callIoSD i hd ha.sim⟩
  rw [hK]; exact h3
theorem de_callIo (hK : X.K = G.K) (i : Nat) {y : Str} (F : Gd X.prog X.w G X.mg X.base k x fs ps []) (hr : Room k X.A) (tk : L2N.Takes X W) (ha : DA X G W es t w) (hN : X.N[i]? = some y := by rfl) (hv : Vis X.env.scope y := by first | exact Or.inl rfl | exact Or.inr (Or.inl rfl) | exact Or.inr (Or.inr rfl))
    (hd2 : (y == ("__debug__" : Str)) = false := by decide) (hcd : (y == ("__classdict__" : Str)) = false := by decide) (hg : Gl X x := by rfl) (hdb : (x == ("__debug__" : Str)) = false := by decide)
    (he : starEach (.Name y p2 :: es) X.env = (false, eval (.Name y p2) X.env) :: starEach es X.env := by rfl) (hpl : (backTo pos (starEach es X.env)).any (·.1) = false := by rfl) :
    DE X G W (.Call (.Name x p) (.Name y p2 :: es) [] pos) (tCallSD (lift G fs) [] (L2.WE W) (tCons (tVar i) t)) (wCallIo fs i [] w) := de_callIoD hK i F hr tk (fun _ => .nil) ha hN hv hd2 hcd hg hdb he hpl
end
def flatR : R → Prop
  | .sh d => flatD d = true
  | .ow (.list l) => l.all flatD = true
  | _ => False
def wCallB (fs : FS) (dv : List D) (wa : WA) : WE := fun Γ Q X => wa Γ (fun rs Γ1 => rdAll rs Γ1 fun ds => fs none (ds ++ dv) (fun r _ => flatR r ∧ Q r Γ1) fun x _ => x.idx = none ∧ X x Γ1) X
theorem Rep.flat_any {K : Fg} {H H' : Hp} {v : V} {d : D} (h : Rep K H v d) (f : flatD d = true) : Rep K H' v d := by
  cases h with
  | non => exact .non
  | bl b => exact .bl b
  | int i => exact .int i
  | str x => exact .str x
  | _ => cases f
theorem Reps.flat_any {K : Fg} {H H' : Hp} : ∀ {vs : List V} {ds : List D}, Reps K H vs ds → ds.all flatD = true → Reps K H' vs ds
  | _, _, .nil, _ => .nil
  | _, _, .cons h r, f => by
    rw [List.all_cons, Bool.and_eq_true] at f
    exact .cons (h.flat_any f.1) (Reps.flat_any r f.2)
theorem Rdbs.reps {K : Fg} {Hi H : Hp} (e : Ext Hi H) : ∀ {vs : List V} {ds : List D}, Rdbs K Hi H vs ds → Reps K H vs ds
  | _, _, .nil => .nil
  | _, _, .cons h r => .cons (h.rep e) (Rdbs.reps e r)
theorem sim_callB {fs : FS} {dvs : List V} {dv : List D} (hd : ∀ Hi, Reps G.K Hi dvs dv) (ha : SimA G W t w) : SimE G W (tCallSD (lift G fs) dvs (L2.WE W) t) (wCallB fs dv w) := by
  intro C Hi σ H Γ Q Qd Xd c hw hQ hX
  refine ha C Hi σ H Γ _ _ Xd c hw (fun vs rs H1 Hi1 Γ1 e1 c1 h1 q1 => ?_) hX
  obtain ⟨ds, bs, q2⟩ := h1.read c1 q1
  have rp := bs.reps c1.imm
  refine ⟨none, ds ++ dv, H1, _, _, [], vs ++ dvs, [], rfl, ⟨rfl, rfl⟩, rp.append (hd H1), Ext.refl _, fun a ha => (nomatch ha), q2, fun v r H' Hi' io' fp' L ra ⟨fl, q⟩ => ?_, fun x cl d H' Hi' io' fp' L hx q => ?_⟩
  · have k : Ext H1 H' := fun a o h => L.keep a o h (fun z => nomatch z)
    have c3 := c1.grow k (Ext.refl _) (c1.imm.trans k) fun _ _ z => .inl z
    cases r with
    | sh d => exact hQ v (.sh d) H' Hi1 Γ1 e1 ⟨c3, Rep.flat_any ra fl⟩ q
    | vr i => exact ra.elim
    | op t d => exact fl.elim
    | ow d =>
      obtain ⟨p, rfl, ow, hn, h0, hnf⟩ := ra
      cases d with
      | list l =>
        cases ow with
        | lst hl rl =>
          obtain ⟨fpc, c1⟩ := c1
          obtain ⟨n1, n2⟩ := c1.fresh h0
          have c4 := c1.grow k (Ext.refl _) (c1.imm.trans k) fun _ _ z => .inl z
          refine hQ _ (.ow (.list l)) H' Hi1 Γ1 e1 ⟨c4.len, _, c4.push2 (x := some (.ref p)) (l := [p]) (s := .ow (.list l)) ⟨p, rfl, rfl, .lst hl (rl.flat_any fl), n2⟩ fun a ha => ?_⟩ q
          have : a = p := by simpa using ha
          subst this
          exact ⟨n1, fun j hj hm => by obtain ⟨o, z⟩ := c1.trk hj hm; rw [h0] at z; cases z⟩
      | _ => exact fl.elim
  · have k : Ext H1 H' := fun a o h => L.keep a o h (fun z => nomatch z)
    exact hX x cl d H' Hi1 Γ1 e1 (c1.grow k (Ext.refl _) (c1.imm.trans k) fun _ _ z => .inl z) (xr_none q.1 hx) q.2
theorem de_callBD {k : Nat} {x : Str} {fs : FS} {ps : List Str} {dvs : List V} {dvd : List D} (hK : X.K = G.K) (F : Gd X.prog X.w G X.mg X.base k x fs ps dvs) (hr : Room k X.A) (tk : L2N.Takes X W) (hd : ∀ Hi, Reps G.K Hi dvs dvd) (ha : DA X G W (e :: es) t w) (hg : Gl X x := by rfl) (hdb : (x == ("__debug__" : Str)) = false := by decide)
    (he : starEach (e :: es) X.env = (false, eval e X.env) :: starEach es X.env := by rfl) (hpl : (backTo pos (starEach es X.env)).any (·.1) = false := by rfl) :
    DE X G W (.Call (.Name x p) (e :: es) [] pos) (tCallSD (lift G fs) dvs (L2.WE W) t) (wCallB fs dvd w) := by
  obtain ⟨f, fd, h1, h2, h3, ds, h4, h5⟩ := F
  rw [← hK] at h2 h5
  refine ⟨pe_callSD ?_ hr hg h1 h2 h5 h4 (L2N.passAt tk) ha.pe hdb he hpl, sim_callB hd ha.sim⟩
  rw [hK]; exact h3
theorem de_callB {k : Nat} {x : Str} {fs : FS} {ps : List Str} (hK : X.K = G.K) (F : Gd X.prog X.w G X.mg X.base k x fs ps []) (hr : Room k X.A) (tk : L2N.Takes X W) (ha : DA X G W (e :: es) t w) (hg : Gl X x := by rfl) (hdb : (x == ("__debug__" : Str)) = false := by decide)
    (he : starEach (e :: es) X.env = (false, eval e X.env) :: starEach es X.env := by rfl) (hpl : (backTo pos (starEach es X.env)).any (·.1) = false := by rfl) :
    DE X G W (.Call (.Name x p) (e :: es) [] pos) (tCallSD (lift G fs) [] (L2.WE W) t) (wCallB fs [] w) := de_callBD hK F hr tk (fun _ => .nil) ha hg hdb he hpl
def wLenS (i : Nat) : WE := fun Γ Q _ => match Γ[i]? with
  | some (.op 0 (.list l)) => Q (.sh (.int (l.length : Int))) Γ
  | _ => False
def wIxS (i : Nat) (wa : WE) : WE := fun Γ Q X => isOwn Γ i ∧ wa Γ (fun r Γ1 => rdW r Γ1 fun d => isI d fun n => match Γ1[i]? with
  | some (.op 0 (.list l)) => (match atI l n with
    | some d => Q (.sh d) Γ1
    | none => False)
  | _ => False) X

variable {tg : Expr} {tI : TI} {wI : WI}
theorem di_list (hK : X.K = G.K) (h : DE X G W a ta wa) : DI X G W tg a (iList G.K ta) (wiL wa) := ⟨by rw [← hK]; exact pi_list h.pe, simi_list h.sim⟩
theorem di_str (h : DE X G W a ta wa) : DI X G W tg a (iStr ta) (wiS wa) := ⟨pi_str h.pe, simi_str h.sim⟩
theorem di_range1 (hm : X.mg "range" = none) (h : DA X G W [a] t w) (hg : Gl X "range" := by rfl) (hs : starEach [a] X.env = [(false, eval a X.env)] := by rfl) : DI X G W tg (.Call (.Name "range" p) [a] [] pos) (iRng1 t) (wiR1 w) := ⟨pi_range1 hg hm h.pe hs, simi_range1 h.sim⟩
theorem di_enum {kk : Nat} {elts : List Expr} (hK : X.K = G.K) (hm : X.mg "enumerate" = none) (h : DA X G W [a] t w) (hg : Gl X "enumerate" := by rfl) (hs : starEach [a] X.env = [(false, eval a X.env)] := by rfl) :
    DI X G W (.Tuple elts kk p2) (.Call (.Name "enumerate" p) [a] [] pos) (iEnum G.K t) (wiA enumD w) := ⟨by rw [← hK]; exact pi_enum hg hm h.pe hs, simi_enum h.sim⟩
theorem dg_name (i : Nat) {x : Str} (hN : X.N.Nodup) (hi : X.N[i]? = some x := by rfl) (hx : L2.Loc X.env.scope x := by first | exact .inl rfl | exact .inr rfl) (hf : X.fn x = true ∨ X.env.scope.names.lookup x = some .local := by first | exact .inl rfl | exact .inr rfl) :
    DG X G (.Name x pos) (gName i) (wgName i) := ⟨pg_name hN hi hx hf, simg_name i⟩
theorem dgs_nil : DGs X G [] gNil wgNil := ⟨pgs_nil, simg_nil⟩
variable {g : TG} {gs : TGs} {wg : WG} {wgs : WGs} {vs : List Nat}
theorem dgs_cons (h : DG X G e g wg) (h2 : DGs X G es gs wgs) (h3 : (assignEach (e :: es) X.env).map (·.2) = assign e X.env :: (assignEach es X.env).map (·.2) := by rfl) : DGs X G (e :: es) (gCons g gs) (wgCons wg wgs) := ⟨pgs_cons h.pe h2.pe h3, simg_cons h.sim h2.sim⟩
theorem dg_tup {k n : Nat} (hK : X.K = G.K) (hc : X.calm = true) (h : DGs X G es gs wgs) (h1 : (assignEach es X.env).length = n := by rfl) (h2 : (assignEach es X.env).findIdx? (·.1) = none := by rfl) : DG X G (.Tuple es k pos) (gTup G.K n gs) (wgTup n wgs) :=
  ⟨by rw [← hK]; exact pg_tup hc h.pe h1 h2, simg_tup h.sim⟩
theorem dgw_name (i : Nat) {x : Str} (hN : X.N.Nodup) (hm : i ∈ vs := by decide) (hi : X.N[i]? = some x := by rfl) (hx : L2.Loc X.env.scope x := by first | exact .inl rfl | exact .inr rfl) (hf : X.fn x = true ∨ X.env.scope.names.lookup x = some .local := by first | exact .inl rfl | exact .inr rfl) :
    DGw X G vs (.Name x pos) (gName i) (wgName i) := ⟨pg_name hN hi hx hf, simgw_name i hm⟩
theorem dgsw_nil : DGsw X G vs [] gNil wgNil := ⟨pgs_nil, simgw_nil⟩
theorem dgsw_cons (h : DGw X G vs e g wg) (h2 : DGsw X G vs es gs wgs) (h3 : (assignEach (e :: es) X.env).map (·.2) = assign e X.env :: (assignEach es X.env).map (·.2) := by rfl) : DGsw X G vs (e :: es) (gCons g gs) (wgCons wg wgs) := ⟨pgs_cons h.pe h2.pe h3, simgw_cons h.sim h2.sim⟩
theorem dgw_tup {k n : Nat} (hK : X.K = G.K) (hc : X.calm = true) (h : DGsw X G vs es gs wgs) (h1 : (assignEach es X.env).length = n := by rfl) (h2 : (assignEach es X.env).findIdx? (·.1) = none := by rfl) : DGw X G vs (.Tuple es k pos) (gTup G.K n gs) (wgTup n wgs) :=
  ⟨by rw [← hK]; exact pg_tup hc h.pe h1 h2, simgw_tup h.sim⟩
theorem dts_nil : DTs X G W [] tYes wYes := ⟨pts_nil, sim_yes⟩
theorem dts_one (h : DT X G W a tt wt) : DTs X G W [a] tt wt := ⟨pts_one h.pe, h.sim⟩
abbrev Blk (X : Cx) (scope : Scope) (s : Shared) (H : Hp) (C : Addr) (cl : List (Str × Addr)) (fp : List Addr) : Cx := X.blk s H scope (compEnvC scope cl C X.env) fp
variable {ifs : List Expr} {scope : Scope} {own : List (Str × Nat)}
theorem de_lc (hc : X.calm = true) (hN : X.N.Nodup) (hi : DI X G W tg a tI wI) (ok : BlkOk X.N X.env.scope scope own) (nd : (own.map (·.2)).Nodup)
    (hg : ∀ s H C cl fp, DGw (Blk X scope s H C cl fp) G (own.map (·.2)) tg g wg) (ht : ∀ s H C cl fp, DTs (Blk X scope s H C cl fp) G noW ifs tt wt) (he : ∀ s H C cl fp, DE (Blk X scope s H C cl fp) G noW e te we) (hs : ∀ x, foldedSetIterable a X.env x = pure x := by intro _; rfl) :
    DE X G W (.ListComp e [⟨tg, a, ifs, 0⟩] scope pos) (tLc tI g tt te (own.map (·.2))) (wLc (own.map (·.2)) wI wg wt we) :=
  ⟨pe_lc hc hN hi.pe ok (fun s H C cl fp => (hg s H C cl fp).pe) (fun s H C cl fp => (ht s H C cl fp).pe) (fun s H C cl fp => (he s H C cl fp).pe) hs,
    sim_lc nd hi.sim (hg X.s_0 X.H_0 0 [] []).sim (ht X.s_0 X.H_0 0 [] []).sim (he X.s_0 X.H_0 0 [] []).sim⟩
theorem ds_setLc {y : Str} {py spos : Pos} (i : Nat) (hc : X.calm = true) (hN : X.N.Nodup) (hi : DI X G W tg a tI wI) (ok : BlkOk X.N X.env.scope scope own) (nd : (own.map (·.2)).Nodup)
    (hg : ∀ s H C cl fp, DGw (Blk X scope s H C cl fp) G (own.map (·.2)) tg g wg) (ht : ∀ s H C cl fp, DTs (Blk X scope s H C cl fp) G noW ifs tt wt) (he : ∀ s H C cl fp, DE (Blk X scope s H C cl fp) G noW e te we)
    (hsw : swapsWith (.ListComp e [⟨tg, a, ifs, 0⟩] scope pos) (some (.Name y py)) spos.line X.env = pure true) (hy : X.N[i]? = some y := by rfl) (hyl : X.env.scope.names.lookup y = some .local := by rfl) (hs : ∀ x, foldedSetIterable a X.env x = pure x := by intro _; rfl) :
    DS X G W (.Assign [.Name y py] (.ListComp e [⟨tg, a, ifs, 0⟩] scope pos) spos) (tAsg (tLc tI g tt te (own.map (·.2))) (gName i)) (wSet i (wLc (own.map (·.2)) wI wg wt we)) :=
  ⟨ps_setLc hc hN hy hyl hsw hi.pe ok (fun s H C cl fp => (hg s H C cl fp).pe) (fun s H C cl fp => (ht s H C cl fp).pe) (fun s H C cl fp => (he s H C cl fp).pe) hs,
    sim_set i (sim_lc nd hi.sim (hg X.s_0 X.H_0 0 [] []).sim (ht X.s_0 X.H_0 0 [] []).sim (he X.s_0 X.H_0 0 [] []).sim)⟩
theorem de_dc {tk tv : TE} {wk wv : WE} {kx vx : Expr} (hc : X.calm = true) (hN : X.N.Nodup) (hi : DI X G W tg a tI wI) (ok : BlkOk X.N X.env.scope scope own) (nd : (own.map (·.2)).Nodup)
    (hg : ∀ s H C cl fp, DGw (Blk X scope s H C cl fp) G (own.map (·.2)) tg g wg) (ht : ∀ s H C cl fp, DTs (Blk X scope s H C cl fp) G noW ifs tt wt) (hk : ∀ s H C cl fp, DE (Blk X scope s H C cl fp) G noW kx tk wk) (hv : ∀ s H C cl fp, DE (Blk X scope s H C cl fp) G noW vx tv wv)
    (hs : ∀ x, foldedSetIterable a X.env x = pure x := by intro _; rfl) :
    DE X G W (.DictComp kx vx [⟨tg, a, ifs, 0⟩] scope pos) (tDc tI g tt tk tv (own.map (·.2))) (wDc (own.map (·.2)) wI wg wt wk wv) :=
  ⟨pe_dc hc hN hi.pe ok (fun s H C cl fp => (hg s H C cl fp).pe) (fun s H C cl fp => (ht s H C cl fp).pe) (fun s H C cl fp => (hk s H C cl fp).pe) (fun s H C cl fp => (hv s H C cl fp).pe) hs,
    sim_dc nd hi.sim (hg X.s_0 X.H_0 0 [] []).sim (ht X.s_0 X.H_0 0 [] []).sim (hk X.s_0 X.H_0 0 [] []).sim (hv X.s_0 X.H_0 0 [] []).sim⟩

variable {st : Stmt} {sts b1 b2 : List Stmt} {ts us : TS} {ws wu2 : WS}
theorem db_nil : DB X G W [] tNext wNext := ⟨pss_nil, sim_next⟩
theorem db_one (h : DS X G W st ts ws) : DB X G W [st] ts ws := ⟨pss_one h.pe, h.sim⟩
theorem db_cons (h : DS X G W st ts ws) (h2 : DB X G W sts us wu2) : DB X G W (st :: sts) (tSeq ts us) (wSeq ws wu2) := ⟨pss_cons h.pe h2.pe, sim_seq h.sim h2.sim⟩
def wNev : WS := fun _ _ _ => False
theorem ds_never : DS X G W st tNever wNev := ⟨ps_never, fun C Hi σ H Γ Dn Dd Xd c hw _ _ _ _ _ => hw.elim⟩
theorem ds_expr (h : DE X G W e te we) (hs : swapsWith e none pos.line X.env = pure false := by rfl) : DS X G W (.Expr e pos) (tDrop te) (wDrop we) := ⟨ps_expr h.pe hs, sim_drop h.sim⟩
theorem ds_ret (h : DE X G W e te we) : DS X G W (.Return (some e) pos) (tRet te) (wRet we) := ⟨ps_ret h.pe, sim_ret h.sim⟩
theorem ds_if (hc : DT X G W c tt wt) (h1 : DB X G W b1 ts ws) (h2 : DB X G W b2 us wu2) : DS X G W (.If c b1 b2 pos) (tIfS tt ts us) (wIfS wt ws wu2) := ⟨ps_if hc.pe h1.pe h2.pe, sim_ifS hc.sim h1.sim h2.sim⟩
theorem ds_set (i : Nat) {x : Str} (hN : X.N.Nodup) (he : DE X G W e te we) (hi : X.N[i]? = some x := by rfl) (hx : L2.Loc X.env.scope x := by first | exact .inl rfl | exact .inr rfl) (hs : swapsWith e (some (.Name x pos')) pos.line X.env = pure false := by rfl)
    (hf : X.fn x = true ∨ X.env.scope.names.lookup x = some .local := by first | exact .inl rfl | exact .inr rfl) : DS X G W (.Assign [.Name x pos'] e pos) (tAsg te (gName i)) (wSet i we) := ⟨ps_set hN hi hx he.pe hs hf, sim_set i he.sim⟩
theorem ds_par (i j : Nat) {x y : Str} {px py pt pt2 : Pos} {kt k2 : Nat} {wsl : WSl} (hc : X.calm = true) (hN : X.N.Nodup) (ha : DSl X G W [a, b] t wsl) (hij : i ≠ j := by decide) (hi : X.N[i]? = some x := by rfl) (hj : X.N[j]? = some y := by rfl)
    (hx : X.env.scope.names.lookup x = some .local := by rfl) (hy : X.env.scope.names.lookup y = some .local := by rfl) (hsw : swappedStores [.Tuple [.Name x px, .Name y py] kt pt] (.Tuple [a, b] k2 pt2) X.env = pure (some [x, y]) := by rfl)
    (hs : swapsWithSole [.Tuple [.Name x px, .Name y py] kt pt] (.Tuple [a, b] k2 pt2) pos.line X.env = pure false := by rfl) :
    DS X G W (.Assign [.Tuple [.Name x px, .Name y py] kt pt] (.Tuple [a, b] k2 pt2) pos) (tPar i j t) (wPar [i, j] wsl) := ⟨ps_par hc hN hi hj hij hx hy ha.pe hsw hs, sim_par ha.sim⟩
theorem ds_par3 (i j l : Nat) {x y z : Str} {px py pz pt pt2 : Pos} {kt k2 : Nat} {wsl : WSl} (hc : X.calm = true) (hN : X.N.Nodup) (ha : DSl X G W [a, b, c] t wsl) (hij : i ≠ j := by decide) (hil : i ≠ l := by decide) (hjl : j ≠ l := by decide) (hi : X.N[i]? = some x := by rfl) (hj : X.N[j]? = some y := by rfl) (hl : X.N[l]? = some z := by rfl)
    (hx : X.env.scope.names.lookup x = some .local := by rfl) (hy : X.env.scope.names.lookup y = some .local := by rfl) (hz : X.env.scope.names.lookup z = some .local := by rfl) (hsw : swappedStores [.Tuple [.Name x px, .Name y py, .Name z pz] kt pt] (.Tuple [a, b, c] k2 pt2) X.env = pure (some [x, y, z]) := by rfl)
    (hs : swapsWithSole [.Tuple [.Name x px, .Name y py, .Name z pz] kt pt] (.Tuple [a, b, c] k2 pt2) pos.line X.env = pure false := by rfl) :
    DS X G W (.Assign [.Tuple [.Name x px, .Name y py, .Name z pz] kt pt] (.Tuple [a, b, c] k2 pt2) pos) (tPar3 i j l t) (wPar [i, j, l] wsl) := ⟨ps_par3 hc hN hi hj hl hij hil hjl hx hy hz ha.pe hsw hs, sim_par3 ha.sim⟩
theorem pg_names {is : List Nat} {n k k2 : Nat} {pt2 : Pos} {wsl : WSl} (hK : X.K = G.K) (hc : X.calm = true) (ha : DSl X G W es t wsl) {ts' : List Expr} (hg : PGs X ts' (gNames is)) (hn : is.length = n) (hs : n ≤ 1000)
    (h1 : (assignEach ts' X.env).length = n := by rfl) (h2 : (assignEach ts' X.env).findIdx? (·.1) = none := by rfl)
    (hsw : swapsWithSole [.Tuple ts' k p2] (.Tuple es k2 pt2) pos.line X.env = pure false := by rfl) (hw : swappedStores [.Tuple ts' k p2] (.Tuple es k2 pt2) X.env = pure none := by rfl) (hq : (assignEach [.Tuple ts' k p2] X.env).map (·.2) = [assign (.Tuple ts' k p2) X.env] := by rfl) :
    DS X G W (.Assign [.Tuple ts' k p2] (.Tuple es k2 pt2) pos) (tAsg (tTup t) (gTup G.K n (gNames is))) (wPar is wsl) :=
  ⟨ps_asg (pe_tup ha.pe) (by rw [← hK]; exact pg_tup hc hg h1 h2) hsw hw hq, sim_parT hn hs ha.sim⟩
theorem ds_for (hp : PassesOwn (model X.prog X.w) X.A X.env X.xe) (hc : X.calm = true) (hi : DI X G W tg a tI wI) (hg : DG X G tg g wg) (hb : DB X G W b1 ts ws) (hs : ∀ x, foldedSetIterable a X.env x = pure x := by intro _; rfl) :
    DS X G W (.For tg a b1 [] pos) (tFor tI g ts) (wFor wI wg ws) := ⟨ps_for hp hc hi.pe hg.pe hb.pe hs, sim_for hi.sim hg.sim hb.sim⟩
theorem ds_dput (hu : X.A.units + 65 < cLine) (i : Nat) {x : Str} {k : Expr} {px ps' : Pos} (hk : DE X G W k tb wb) (hv : DE X G W a ta wa) (hN : X.N[i]? = some x := by rfl) (hvis : Vis X.env.scope x := by first | exact Or.inl rfl | exact Or.inr (Or.inl rfl) | exact Or.inr (Or.inr rfl))
    (hd : (x == ("__debug__" : Str)) = false := by decide) (hcd : (x == ("__classdict__" : Str)) = false := by decide) (hs : swapsWith a (some (.Subscript (.Name x px) k ps')) pos.line X.env = pure false := by rfl) :
    DS X G W (.Assign [.Subscript (.Name x px) k ps'] a pos) (sDPut (tVar i) tb ta) (wDPut i wb wa) := ⟨ps_dput (by omega) (pe_var hN hvis hd hcd) hk.pe hv.pe hs, sim_dput i hk.sim hv.sim⟩
theorem ds_lput (i : Nat) {x : Str} {k : Expr} {px ps' : Pos} (hk : DE X G W k tb wb) (hv : DE X G W a ta wa) (hN : X.N[i]? = some x := by rfl) (hvis : Vis X.env.scope x := by first | exact Or.inl rfl | exact Or.inr (Or.inl rfl) | exact Or.inr (Or.inr rfl))
    (hd : (x == ("__debug__" : Str)) = false := by decide) (hcd : (x == ("__classdict__" : Str)) = false := by decide)
    (hq : ∀ v, assign (.Subscript (.Name x px) k ps') X.env v = (do let ov ← holding [v] (eval (.Name x px) X.env); let iv ← holding [v, ov] (eval k X.env); standAt ps'; holding [v, ov, iv] (setItem ov iv v); release [v, ov, iv] []) := by intro _; rfl)
    (hs : swapsWithSole [.Subscript (.Name x px) k ps'] a pos.line X.env = pure false := by rfl) (hw : swappedStores [.Subscript (.Name x px) k ps'] a X.env = pure none := by rfl) (ha : (assignEach [.Subscript (.Name x px) k ps'] X.env).map (·.2) = [assign (.Subscript (.Name x px) k ps') X.env] := by rfl) :
    DS X G W (.Assign [.Subscript (.Name x px) k ps'] a pos) (tAsg ta (gSub (tVar i) tb rSetL)) (wLPut i wb wa) := ⟨ps_asg hv.pe (pg_sub (pe_var hN hvis hd hcd) hk.pe set_list hq) hs hw ha, sim_lput i hk.sim hv.sim⟩
end
end VL

set_option Elab.async false
set_option linter.all false
set_option maxRecDepth 100000
set_option maxHeartbeats 2000000
namespace SC
open PySem PySem.Spec PyProof.Rows L2

section
variable {X : Cx}
end
end SC

set_option Elab.async false
set_option linter.all false
set_option maxRecDepth 100000
namespace VL
open PySem L2
variable {X : Cx} {G : Gb}
end VL

set_option Elab.async false
set_option linter.all false
set_option maxRecDepth 100000
namespace VL
open PySem L2

def ScrOk (K : Fg) (t : Nat) (d : D) (H : Hp) (p : Addr) (fp : List Addr) : Prop := t % 10 = 0 ∧ ∃ ns : List Int, d = .list (ns.map .int) ∧
  ((fp = [] ∧ ∃ (o : Obj) (its : Array Value) (n : Nat), K.lookup p = some o ∧ o.cls = .type "list" ∧ o.dict = none ∧ o.data = .seq its n ∧ its.size ≤ sizeLine ∧ Vals (ns.map V.int) its.toList) ∨ (fp = [p] ∧ Rd H p (.lst (ns.map V.int))))
def DeckOk (t : Nat) (d : D) (H : Hp) (p : Addr) (fp : List Addr) : Prop := t % 10 = 1 ∧ ∃ (n : Nat) (q : Addr) (ys : List Addr) (c : Int), d = .int (n : Int) ∧ fp = p :: q :: ys ∧ p ≠ q ∧ p ∉ ys ∧ q ∉ ys ∧
  H p = some (.lst [.ref q, .int c]) ∧ 0 ≤ c ∧ c ≤ (n : Int) ∧ H q = some (.lst (ys.map .ref)) ∧ ys ≠ [] ∧ ys.length ≤ 63 ∧ ∀ y ∈ ys, ∃ a f k : Int, H y = some (.lst [.int a, .int f, .int k]) ∧ 0 ≤ k ∧ k ≤ 3000 + (n : Int)
def KpD (cls : Value) (d : Option Addr) (a : Addr) : HO := .ext fun h => ∃ (oe : Obj) (vs : Array Value), h.get? a = some oe ∧ L2N.Zn cls d oe ∧ oe.data = .fields vs
abbrev KpO (cls : Value) (a : Addr) : HO := KpD cls none a
def KepOk (K : Fg) (t : Nat) (d : D) (H : Hp) (p : Addr) (fp : List Addr) : Prop := t % 10 = 2 ∧ ∃ nm : Str, d = .str nm ∧ fp = [p] ∧ H p = some (KpO (.ref (He.ga K nm)) p)
theorem ScrOk.loc {K : Fg} {t : Nat} {d : D} {H H' : Hp} {p : Addr} {fp : List Addr} (h : ScrOk K t d H p fp) (e : ∀ a ∈ fp, H' a = H a) : ScrOk K t d H' p fp := by
  obtain ⟨ht, ns, hd, h⟩ := h
  refine ⟨ht, ns, hd, ?_⟩
  rcases h with h | ⟨hf, h⟩
  · exact .inl h
  · refine .inr ⟨hf, ?_⟩
    have : H' p = H p := e p (by rw [hf]; simp)
    unfold Rd at h ⊢
    rw [this]
    exact h
theorem ScrOk.trk {K : Fg} {t : Nat} {d : D} {H : Hp} {p : Addr} {fp : List Addr} (h : ScrOk K t d H p fp) : ∀ a ∈ fp, ∃ o, H a = some o := by
  intro a ha
  obtain ⟨_, ns, _, h⟩ := h
  rcases h with ⟨hf, _⟩ | ⟨hf, h⟩
  · rw [hf] at ha; cases ha
  · rw [hf] at ha
    have : a = p := by simpa using ha
    subst this
    rcases h with h | ⟨o, h⟩
    · exact ⟨_, h⟩
    · exact ⟨_, h⟩
theorem DeckOk.loc {t : Nat} {d : D} {H H' : Hp} {p : Addr} {fp : List Addr} (h : DeckOk t d H p fp) (e : ∀ a ∈ fp, H' a = H a) : DeckOk t d H' p fp := by
  obtain ⟨ht, n, q, ys, c, hd, hf, h1, h2, h3, h4, h5, h6, h7, h8, h9, h10⟩ := h
  subst hf
  refine ⟨ht, n, q, ys, c, hd, rfl, h1, h2, h3, ?_, h5, h6, ?_, h8, h9, fun y hy => ?_⟩
  · rw [e p (by simp)]; exact h4
  · rw [e q (by simp)]; exact h7
  · rw [e y (by simp [hy])]; exact h10 y hy
theorem DeckOk.trk {t : Nat} {d : D} {H : Hp} {p : Addr} {fp : List Addr} (h : DeckOk t d H p fp) : ∀ a ∈ fp, ∃ o, H a = some o := by
  intro a ha
  obtain ⟨ht, n, q, ys, c, hd, hf, h1, h2, h3, h4, h5, h6, h7, h8, h9, h10⟩ := h
  subst hf
  simp only [List.mem_cons] at ha
  rcases ha with rfl | rfl | ha
  · exact ⟨_, h4⟩
  · exact ⟨_, h7⟩
  · obtain ⟨_, _, _, h, _⟩ := h10 a ha
    exact ⟨_, h⟩
theorem KepOk.loc {K : Fg} {t : Nat} {d : D} {H H' : Hp} {p : Addr} {fp : List Addr} (h : KepOk K t d H p fp) (e : ∀ a ∈ fp, H' a = H a) : KepOk K t d H' p fp := by
  obtain ⟨ht, nm, hd, hf, h1⟩ := h
  exact ⟨ht, nm, hd, hf, by rw [e p (by rw [hf]; simp)]; exact h1⟩
theorem KepOk.trk {K : Fg} {t : Nat} {d : D} {H : Hp} {p : Addr} {fp : List Addr} (h : KepOk K t d H p fp) : ∀ a ∈ fp, ∃ o, H a = some o := by
  intro a ha
  obtain ⟨ht, nm, hd, hf, h1⟩ := h
  rw [hf] at ha
  have : a = p := by simpa using ha
  subst this
  exact ⟨_, h1⟩
inductive Ix1 : V → D → Prop
  | non : Ix1 .non .none
  | int (i : Int) : Ix1 (.int i) (.int i)
def KxiOk (K : Fg) (t : Nat) (d : D) (Hi H : Hp) (p : Addr) (fp : List Addr) : Prop := t % 10 = 6 ∧ ∃ (nm : Str) (dx : Addr) (v : V) (dv : D), d = .tuple [.str nm, dv] ∧ fp = [p] ∧ H p = some (KpD (.ref (He.ga K nm)) (some dx) p) ∧ Hi dx = some (.xd [(("index" : Str), v)]) ∧ Ix1 v dv
theorem KxiOk.loc {K : Fg} {t : Nat} {d : D} {Hi Hi' H H' : Hp} {p : Addr} {fp : List Addr} (h : KxiOk K t d Hi H p fp) (ex : Ext Hi Hi') (e : ∀ a ∈ fp, H' a = H a) : KxiOk K t d Hi' H' p fp := by
  obtain ⟨ht, nm, dx, v, dv, hd, hf, h1, h2, h3⟩ := h
  exact ⟨ht, nm, dx, v, dv, hd, hf, by rw [e p (by rw [hf]; simp)]; exact h1, ex _ _ h2, h3⟩
theorem KxiOk.trk {K : Fg} {t : Nat} {d : D} {Hi H : Hp} {p : Addr} {fp : List Addr} (h : KxiOk K t d Hi H p fp) : ∀ a ∈ fp, ∃ o, H a = some o := by
  intro a ha
  obtain ⟨ht, nm, dx, v, dv, hd, hf, h1, _⟩ := h
  rw [hf] at ha
  have : a = p := by simpa using ha
  subst this
  exact ⟨_, h1⟩
theorem KxiOk.swp {K : Fg} {t : Nat} {d : D} {Hi H H' : Hp} {p a : Addr} {fp : List Addr} {u u' : HO} {kvs : List (Key × V)} (h : KxiOk K t d Hi H p fp) (ha : Hi a = some u) (e : Dual kvs u u') (k : ∀ b ∈ fp, H' b = H b) : KxiOk K t d (VL.swp Hi a u') H' p fp := by
  obtain ⟨ht, nm, dx, v, dv, hd, hf, h1, h2, h3⟩ := h
  have : dx ≠ a := fun z => by
    rw [z, ha] at h2
    injection h2 with h2
    rcases e.1 with q | ⟨o, q⟩
    · rw [q] at h2; cases h2
    · rw [q] at h2; cases h2
  exact ⟨ht, nm, dx, v, dv, hd, hf, by rw [k p (by rw [hf]; simp)]; exact h1, by rw [swp_ne this]; exact h2, h3⟩
def spec : Nat → List (Str × Bool)
  | 3 => [("own_score", false), ("elapsed", false), ("operations", true)]
  | 4 => [("scores", true)]
  | _ => []
def clsN : Nat → Str
  | 3 => "Player"
  | 4 => "Console"
  | _ => ""
inductive Fds (K : Fg) (Hi H : Hp) : List (Str × Bool) → List (Str × V) → List D → List Addr → Prop
  | nil {sp : List (Str × Bool)} : Fds K Hi H sp [] [] []
  | sh {f : Str} {v : V} {d : D} {sp : List (Str × Bool)} {fs : List (Str × V)} {ds : List D} {l : List Addr} : Rep K Hi v d → Fds K Hi H sp fs ds l → Fds K Hi H ((f, false) :: sp) ((f, v) :: fs) (d :: ds) l
  | ow {f : Str} {q : Addr} {d : D} {sp : List (Str × Bool)} {fs : List (Str × V)} {ds : List D} {l : List Addr} : Own K Hi H q d → q ∉ l → Fds K Hi H sp fs ds l → Fds K Hi H ((f, true) :: sp) ((f, .ref q) :: fs) (d :: ds) (q :: l)
theorem Fds.to {K : Fg} {Hi Hi' H H' : Hp} (e : Ext Hi Hi') : ∀ {sp : List (Str × Bool)} {fs : List (Str × V)} {ds : List D} {l : List Addr}, Fds K Hi H sp fs ds l → (∀ a ∈ l, H' a = H a) → Fds K Hi' H' sp fs ds l
  | _, _, _, _, .nil, _ => .nil
  | _, _, _, _, .sh r t, k => .sh (r.mono e) (Fds.to e t k)
  | _, _, _, _, .ow o n t, k => .ow (o.to e (k _ List.mem_cons_self)) n (Fds.to e t fun a ha => k a (List.mem_cons_of_mem _ ha))
theorem Fds.trk {K : Fg} {Hi H : Hp} : ∀ {sp : List (Str × Bool)} {fs : List (Str × V)} {ds : List D} {l : List Addr}, Fds K Hi H sp fs ds l → ∀ a ∈ l, ∃ o, H a = some o
  | _, _, _, _, .nil, _, ha => nomatch ha
  | _, _, _, _, .sh _ t, a, ha => Fds.trk t a ha
  | _, _, _, _, .ow o _ t, a, ha => by
    rcases List.mem_cons.mp ha with rfl | ha
    · exact o.trk
    · exact Fds.trk t a ha
structure InsAt (K : Fg) (t : Nat) (Hi H : Hp) (p dx : Addr) (fs : List (Str × V)) (ds : List D) (l : List Addr) : Prop where
  ins : H p = some (.ins (He.ga K (clsN t)) dx fs)
  own : H dx = some (.own p)
  fds : Fds K Hi H (spec t) fs ds l
  n1 : p ≠ dx
  n2 : p ∉ l
  n3 : dx ∉ l
  cls : Cls K (He.ga K (clsN t))
  noat : ∀ f ∈ (spec t).map (·.1), NoAttr K (He.ga K (clsN t)) f
def InsOk (K : Fg) (t : Nat) (d : D) (Hi H : Hp) (p : Addr) (fp : List Addr) : Prop := (t % 10 = 3 ∨ t % 10 = 4) ∧ ∃ (dx : Addr) (fs : List (Str × V)) (ds : List D) (l : List Addr), d = .tuple ds ∧ fp = p :: dx :: l ∧ InsAt K (t % 10) Hi H p dx fs ds l
theorem InsOk.loc {K : Fg} {t : Nat} {d : D} {Hi Hi' H H' : Hp} {p : Addr} {fp : List Addr} (h : InsOk K t d Hi H p fp) (e : Ext Hi Hi') (k : ∀ a ∈ fp, H' a = H a) : InsOk K t d Hi' H' p fp := by
  obtain ⟨ht, dx, fs, ps, l, hd, hf, I⟩ := h
  subst hf
  exact ⟨ht, dx, fs, ps, l, hd, rfl, by rw [k p (by simp)]; exact I.ins, by rw [k dx (by simp)]; exact I.own, I.fds.to e fun a ha => k a (by simp [ha]), I.n1, I.n2, I.n3, I.cls, I.noat⟩
theorem InsOk.trk {K : Fg} {t : Nat} {d : D} {Hi H : Hp} {p : Addr} {fp : List Addr} (h : InsOk K t d Hi H p fp) : ∀ a ∈ fp, ∃ o, H a = some o := by
  intro a ha
  obtain ⟨ht, dx, fs, ps, l, hd, hf, I⟩ := h
  subst hf
  simp only [List.mem_cons] at ha
  rcases ha with rfl | rfl | ha
  · exact ⟨_, I.ins⟩
  · exact ⟨_, I.own⟩
  · exact I.fds.trk a ha
theorem Own.swp {K : Fg} {Hi H H' : Hp} {p a : Addr} {d : D} {u u' : HO} {kvs : List (Key × V)} (h : Own K Hi H p d) (ha : Hi a = some u) (e : Dual kvs u u') (k : H' p = H p) : Own K (VL.swp Hi a u') H' p d := by
  cases h with
  | lst h r => exact .lst (by rw [k]; exact h) (Reps.swp ha e r)
  | dct h r => exact .dct (by rw [k]; exact h) (RepKV.swp ha e r)
theorem Fds.swp {K : Fg} {Hi H H' : Hp} {a : Addr} {u u' : HO} {kvs : List (Key × V)} (ha : Hi a = some u) (e : Dual kvs u u') : ∀ {sp : List (Str × Bool)} {fs : List (Str × V)} {ds : List D} {l : List Addr}, Fds K Hi H sp fs ds l → (∀ b ∈ l, H' b = H b) → Fds K (VL.swp Hi a u') H' sp fs ds l
  | _, _, _, _, .nil, _ => .nil
  | _, _, _, _, .sh r t, k => .sh (Rep.swp ha e r) (Fds.swp ha e t k)
  | _, _, _, _, .ow o n t, k => .ow (o.swp ha e (k _ List.mem_cons_self)) n (Fds.swp ha e t fun b hb => k b (List.mem_cons_of_mem _ hb))
theorem InsOk.swp {K : Fg} {t : Nat} {d : D} {Hi H H' : Hp} {p a : Addr} {fp : List Addr} {u u' : HO} {kvs : List (Key × V)} (h : InsOk K t d Hi H p fp) (ha : Hi a = some u) (e : Dual kvs u u') (k : ∀ b ∈ fp, H' b = H b) : InsOk K t d (VL.swp Hi a u') H' p fp := by
  obtain ⟨ht, dx, fs, ps, l, hd, hf, I⟩ := h
  subst hf
  exact ⟨ht, dx, fs, ps, l, hd, rfl, by rw [k p (by simp)]; exact I.ins, by rw [k dx (by simp)]; exact I.own, I.fds.swp ha e fun a ha => k a (by simp [ha]), I.n1, I.n2, I.n3, I.cls, I.noat⟩
inductive NewT (K : Fg) (Hi H : Hp) : V → D → List Addr → Prop
  | int (i : Int) : NewT K Hi H (.int i) (.int i) []
  | str (x : Str) : NewT K Hi H (.str x) (.str x) []
  | lst {p : Addr} {xs : List V} {ds : List D} : H p = some (.lst xs) → Reps K Hi xs ds → NewT K Hi H (.ref p) (.list ds) [p]
  | two {p : Addr} {v w : V} {dv dw : D} {l1 l2 : List Addr} : H p = some (.tup [v, w]) → NewT K Hi H v dv l1 → NewT K Hi H w dw l2 → p ∉ l1 → p ∉ l2 → (∀ a ∈ l1, a ∉ l2) → NewT K Hi H (.ref p) (.tuple [dv, dw]) (p :: (l1 ++ l2))
theorem NewT.loc {K : Fg} {Hi Hi' H H' : Hp} {v : V} {d : D} {l : List Addr} (h : NewT K Hi H v d l) (e : Ext Hi Hi') (k : ∀ a ∈ l, H' a = H a) : NewT K Hi' H' v d l := by
  induction h with
  | int i => exact .int i
  | str x => exact .str x
  | lst h r => exact .lst (by rw [k _ (by simp)]; exact h) (r.mono e)
  | two h _ _ n1 n2 n3 i1 i2 => exact .two (by rw [k _ (by simp)]; exact h) (i1 fun a ha => k a (by simp [ha])) (i2 fun a ha => k a (by simp [ha])) n1 n2 n3
theorem NewT.trk {K : Fg} {Hi H : Hp} {v : V} {d : D} {l : List Addr} (h : NewT K Hi H v d l) : ∀ a ∈ l, ∃ o, H a = some o := by
  induction h with
  | int i => exact fun a ha => nomatch ha
  | str x => exact fun a ha => nomatch ha
  | lst h r =>
    intro a ha
    rw [List.mem_singleton.mp ha]
    exact ⟨_, h⟩
  | two h _ _ n1 n2 n3 i1 i2 =>
    intro a ha
    simp only [List.mem_cons, List.mem_append] at ha
    rcases ha with rfl | ha | ha
    · exact ⟨_, h⟩
    · exact i1 a ha
    · exact i2 a ha
theorem NewT.swp {K : Fg} {Hi H H' : Hp} {v : V} {d : D} {l : List Addr} {a : Addr} {u u' : HO} {kvs : List (Key × V)} (h : NewT K Hi H v d l) (ha : Hi a = some u) (e : Dual kvs u u') (k : ∀ b ∈ l, H' b = H b) : NewT K (VL.swp Hi a u') H' v d l := by
  induction h with
  | int i => exact .int i
  | str x => exact .str x
  | lst h r => exact .lst (by rw [k _ (by simp)]; exact h) (Reps.swp ha e r)
  | two h _ _ n1 n2 n3 i1 i2 => exact .two (by rw [k _ (by simp)]; exact h) (i1 fun a ha => k a (by simp [ha])) (i2 fun a ha => k a (by simp [ha])) n1 n2 n3
theorem NewT.rep {K : Fg} {Hi H : Hp} {v : V} {d : D} {l : List Addr} (h : NewT K Hi H v d l) (e : Ext Hi H) : Rep K H v d := by
  induction h with
  | int i => exact .int i
  | str x => exact .str x
  | lst h r => exact .lst h (r.mono e)
  | two h _ _ n1 n2 n3 i1 i2 => exact .tup h (.cons i1 (.cons i2 .nil))
def StaOk (K : Fg) (t : Nat) (d : D) (Hi H : Hp) (p : Addr) (fp : List Addr) : Prop := t % 10 = 5 ∧ NewT K Hi H (.ref p) d fp
theorem StaOk.loc {K : Fg} {t : Nat} {d : D} {Hi Hi' H H' : Hp} {p : Addr} {fp : List Addr} (h : StaOk K t d Hi H p fp) (e : Ext Hi Hi') (k : ∀ a ∈ fp, H' a = H a) : StaOk K t d Hi' H' p fp := ⟨h.1, h.2.loc e k⟩
theorem StaOk.trk {K : Fg} {t : Nat} {d : D} {Hi H : Hp} {p : Addr} {fp : List Addr} (h : StaOk K t d Hi H p fp) : ∀ a ∈ fp, ∃ o, H a = some o := h.2.trk
theorem StaOk.swp {K : Fg} {t : Nat} {d : D} {Hi H H' : Hp} {p a : Addr} {fp : List Addr} {u u' : HO} {kvs : List (Key × V)} (h : StaOk K t d Hi H p fp) (ha : Hi a = some u) (e : Dual kvs u u') (k : ∀ b ∈ fp, H' b = H b) : StaOk K t d (VL.swp Hi a u') H' p fp := ⟨h.1, h.2.swp ha e k⟩
def OpS (K : Fg) : OpSem where
  ok := fun t d Hi H p fp => ScrOk K t d H p fp ∨ DeckOk t d H p fp ∨ KepOk K t d H p fp ∨ InsOk K t d Hi H p fp ∨ StaOk K t d Hi H p fp ∨ KxiOk K t d Hi H p fp
  loc := fun h e k => h.imp (fun h => h.loc k) fun h => h.imp (fun h => h.loc k) fun h => h.imp (fun h => h.loc k) fun h => h.imp (fun h => h.loc e k) fun h => h.imp (fun h => h.loc e k) fun h => h.loc e k
  trk := fun h => by
    rcases h with h | h | h | h | h | h
    · exact h.trk
    · exact h.trk
    · exact h.trk
    · exact h.trk
    · exact h.trk
    · exact h.trk
  swp := fun {t d Hi H p fp a u u' kvs} h ha e n => by
    have k : ∀ b ∈ fp, VL.swp H a u' b = H b := fun b hb => swp_ne (n b hb)
    rcases h with h | h | h | h | h | h
    · exact .inl (h.loc k)
    · exact .inr (.inl (h.loc k))
    · exact .inr (.inr (.inl (h.loc k)))
    · exact .inr (.inr (.inr (.inl (h.swp ha e k))))
    · exact .inr (.inr (.inr (.inr (.inl (h.swp ha e k)))))
    · exact .inr (.inr (.inr (.inr (.inr (h.swp ha e k)))))
  hnd := fun {t d Hi H p fp} => by
    have e : t % 10 % 10 = t % 10 := by omega
    unfold ScrOk DeckOk KepOk InsOk StaOk KxiOk
    rw [e]
theorem op_scr {K : Fg} {d : D} {Hi H : Hp} {p : Addr} {fp : List Addr} (h : (OpS K).ok 0 d Hi H p fp) : ScrOk K 0 d H p fp := by
  rcases h with h | h | h | h | h | h
  · exact h
  · have := h.1; omega
  · have := h.1; omega
  · have := h.1; omega
  · have := h.1; omega
  · have := h.1; omega
theorem op_deck {K : Fg} {t : Nat} {d : D} {Hi H : Hp} {p : Addr} {fp : List Addr} (ht : t % 10 = 1) (h : (OpS K).ok t d Hi H p fp) : DeckOk t d H p fp := by
  rcases h with h | h | h | h | h | h
  · have := h.1; omega
  · exact h
  · have := h.1; omega
  · have := h.1; omega
  · have := h.1; omega
  · have := h.1; omega
theorem ScrOk.sq {K : Fg} {t : Nat} {d : D} {H : Hp} {p : Addr} {fp : List Addr} (h : ScrOk K t d H p fp) : ∃ ns : List Int, d = .list (ns.map .int) ∧ SqL K H p (ns.map V.int) := by
  obtain ⟨_, ns, hd, h⟩ := h
  refine ⟨ns, hd, ?_⟩
  rcases h with ⟨_, h⟩ | ⟨_, h⟩
  · exact .inr h
  · exact .inl h
theorem ScrOk.of {K : Fg} {H : Hp} {p : Addr} {ns : List Int} (h : SqL K H p (ns.map V.int)) : ∃ fp, ScrOk K 0 (.list (ns.map .int)) H p fp := by
  rcases h with h | h
  · exact ⟨[p], rfl, ns, rfl, .inr ⟨rfl, h⟩⟩
  · exact ⟨[], rfl, ns, rfl, .inl ⟨rfl, h⟩⟩
section
variable {X : Cx} {G : Gb} {W : WX} {a b c e o i : Expr} {es : List Expr} {ta tb tc te to ti : TE} {wa wb wc we wo wi : WE} {pos pos' p p2 p3 : Pos} {t : TA} {w : WA}
theorem sim_lenS (hO : G.Op = OpS G.K) (i : Nat) : SimE G W (tCB (rLenA G.K) (tCons (tVar i) tNil)) (wLenS i) := by
  intro C Hi σ H Γ Q Qd Xd c hw hQ hX
  unfold wLenS at hw
  split at hw
  · rename_i l e
    obtain ⟨fp, c0⟩ := id c
    obtain ⟨x, hx, p, rfl, ok, _⟩ := c0.sl i _ e
    rw [hO] at ok
    obtain ⟨ns, hd, s⟩ := ScrOk.sq (op_scr ok)
    refine ⟨_, hx, .inl ⟨_, l.length, rfl, .inl ⟨_, s, ?_⟩, hQ _ _ H Hi Γ (Ext.refl _) (out_int c _) hw⟩⟩
    injection hd with hd
    rw [hd]; simp
  · exact hw.elim
theorem de_lenS (hK : X.K = G.K) (hO : G.Op = OpS G.K) (i : Nat) {x : Str} (hm : X.mg "len" = none) (hN : X.N[i]? = some x := by rfl) (hv : Vis X.env.scope x := by first | exact Or.inl rfl | exact Or.inr (Or.inl rfl) | exact Or.inr (Or.inr rfl)) (hd : (x == ("__debug__" : Str)) = false := by decide)
    (hcd : (x == ("__classdict__" : Str)) = false := by decide) (hg : Gl X "len" := by rfl) (he : starEach [.Name x p2] X.env = (false, eval (.Name x p2) X.env) :: starEach [] X.env := by rfl) (hpl : (backTo pos (starEach [] X.env)).any (·.1) = false := by rfl) :
    DE X G W (.Call (.Name "len" p) [.Name x p2] [] pos) (tCB (rLenA G.K) (tCons (tVar i) tNil)) (wLenS i) :=
  ⟨pe_callB (by rw [← hK]; exact call_lenA) hg hm (by decide +kernel) (pa_cons (pe_var hN hv hd hcd) pa_nil he) (by decide) (by decide) he hpl, sim_lenS hO i⟩
theorem atI_map {α β : Type} (f : α → β) (l : List α) (i : Int) : atI (l.map f) i = (atI l i).map f := by
  unfold atI
  rw [List.length_map]
  cases ixN l.length i with
  | none => rfl
  | some j => simp
theorem sim_ixS (hO : G.Op = OpS G.K) (i : Nat) (h : SimE G W ta wa) : SimE G W (tOp (rIxA G.K) (tVar i) ta) (wIxS i wa) := by
  intro C Hi σ H Γ Q Qd Xd c hw hQ hX
  obtain ⟨ho, hw⟩ := hw
  have hp : ∃ p, σ[i]? = some (some (.ref p)) := by
    obtain ⟨fpc, c⟩ := c
    unfold isOwn at ho
    split at ho
    · rename_i d e
      obtain ⟨x, hx, p, _, e1, _⟩ := c.sl i _ e
      exact ⟨p, by rw [hx, e1]⟩
    · rename_i d e
      obtain ⟨x, hx, p, _, e1, _⟩ := c.sl i _ e
      exact ⟨p, by rw [hx, e1]⟩
    · rename_i t d e
      obtain ⟨x, hx, p, e1, _⟩ := c.sl i _ e
      exact ⟨p, by rw [hx, e1]⟩
    · exact ho.elim
  obtain ⟨p, hp⟩ := hp
  refine ⟨_, hp, h C Hi σ H Γ _ _ Xd c hw (fun v1 r1 H1 Hi1 Γ1 e1 o1 q1 => ?_) hX⟩
  obtain ⟨Hi2, e2, c2, h2⟩ := o1.hold
  obtain ⟨d, b1, q2⟩ := h2.read c2 q1
  obtain ⟨n, rfl, q3⟩ := isI_inv q2
  split at q3
  · rename_i l e
    split at q3
    · rename_i d ed
      obtain ⟨fp, c0⟩ := id c2
      obtain ⟨x, hx, p', rfl, ok, _⟩ := c0.sl i _ e
      rw [hp] at hx; cases hx
      rw [hO] at ok
      obtain ⟨ns, hd, s⟩ := ScrOk.sq (op_scr ok)
      injection hd with hd
      subst hd
      rw [atI_map] at ed
      cases eq : atI ns n with
      | none => rw [eq] at ed; cases ed
      | some z =>
        rw [eq] at ed
        cases ed
        exact .inl (.inl ⟨p, ns.map V.int, n, .int z, rfl, b1.int, s, by rw [atI_map, eq]; rfl, hQ _ (.sh (.int z)) H1 Hi2 Γ1 (e1.trans e2) (out_int c2 _) q3⟩)
    · exact q3.elim
  · exact q3.elim
theorem de_ixS (hK : X.K = G.K) (hO : G.Op = OpS G.K) (hu : X.A.units + 65 < cLine) (i : Nat) {x : Str} (hb : DE X G W b tb wb) (hN : X.N[i]? = some x := by rfl) (hv : Vis X.env.scope x := by first | exact Or.inl rfl | exact Or.inr (Or.inl rfl) | exact Or.inr (Or.inr rfl)) (hd : (x == ("__debug__" : Str)) = false := by decide)
    (hcd : (x == ("__classdict__" : Str)) = false := by decide) (hs : PlainIx b := by intro _ _; rfl) : DE X G W (.Subscript (.Name x p) b pos) (tOp (rIxA G.K) (tVar i) tb) (wIxS i wb) :=
  ⟨pe_ix (by rw [← hK]; exact ix_any (by omega)) (pe_var hN hv hd hcd) hb.pe hs, sim_ixS hO i hb.sim⟩
end
def fsLaw : FS := fun io ds Q _ => ∃ ns : List Int, ns.length ≤ 63 ∧ io = some (.op 0 (.list (ns.map .int))) ∧ ds = [] ∧ ∀ io', SameIo io io' → Q (.sh (.bool true)) io'
theorem law_sp {K : Fg} {ca : Str → Addr} {H : Hp} {a : Addr} {ns : List Int} (hl : ns.length ≤ 63) (h : SqL K H a (ns.map V.int)) : lift ⟨K, OpS K, ca⟩ fsLaw [.ref a] H (fun v _ => v = .bl true) fun _ _ _ => False := by
  obtain ⟨fp, ok⟩ := ScrOk.of h
  refine ⟨some (.op 0 (.list (ns.map .int))), [], fun _ => none, fun r _ => r = .sh (.bool true), fun _ _ => False, [.ref a], [], fp, rfl, ⟨by decide, a, rfl, .inl ok⟩, .nil, fun _ _ z => (nomatch z), fun _ _ => rfl, ⟨ns, hl, rfl, rfl, fun _ _ => rfl⟩, fun v r H' Hi' io' fp' L ra q => ?_, fun x c d H' Hi' io' fp' L hx q => q⟩
  subst q
  have ra : Rep K Hi' v (.bool true) := ra
  cases ra
  rfl
theorem fsLaw_len : FnL fsLaw 1 := by
  rintro io ds Q X ⟨ns, _, rfl, rfl, _⟩
  rfl
end VL

set_option Elab.async false
set_option linter.all false
namespace VL
open PySem L2
@[simp ↓] theorem ev_wC (d : D) (Γ : Ev) (Q : R → Ev → Prop) (X : XW) : wC d Γ Q X = (Q (.sh d) Γ) := rfl
@[simp ↓] theorem ev_wOp (o : Op2) (wa wb : WE) (Γ : Ev) (Q : R → Ev → Prop) (X : XW) : wOp o wa wb Γ Q X = (wa Γ (fun ra Γ1 => wb Γ1 (fun rb Γ2 => rdW ra Γ2 fun a => rdW rb Γ2 fun b => o a b fun r => Q r Γ2) X) X) := rfl
@[simp ↓] theorem ev_wUn (o : Op1) (wa : WE) (Γ : Ev) (Q : R → Ev → Prop) (X : XW) : wUn o wa Γ Q X = (wa Γ (fun ra Γ1 => rdW ra Γ1 fun a => o a fun r => Q r Γ1) X) := rfl
@[simp ↓] theorem ev_wT (w : WE) (Γ : Ev) (Q : Bool → Ev → Prop) (X : XW) : wT w Γ Q X = (w Γ (fun r Γ1 => rdW r Γ1 fun d => isB d fun b => Q b Γ1) X) := rfl
@[simp ↓] theorem ev_wAnd (a b : WT) (Γ : Ev) (Q : Bool → Ev → Prop) (X : XW) : wAnd a b Γ Q X = (a Γ (fun c Γ1 => if c = true then b Γ1 Q X else Q false Γ1) X) := rfl
@[simp ↓] theorem ev_wOr (a b : WT) (Γ : Ev) (Q : Bool → Ev → Prop) (X : XW) : wOr a b Γ Q X = (a Γ (fun c Γ1 => if c = true then Q true Γ1 else b Γ1 Q X) X) := rfl
@[simp ↓] theorem ev_wNot (a : WT) (Γ : Ev) (Q : Bool → Ev → Prop) (X : XW) : wNot a Γ Q X = (a Γ (fun c Γ1 => Q (!c) Γ1) X) := rfl
@[simp ↓] theorem ev_wAndV (wa wb : WE) (Γ : Ev) (Q : R → Ev → Prop) (X : XW) : wAndV wa wb Γ Q X = (wa Γ (fun r Γ1 => rdW r Γ1 fun d => isB d fun b => if b = true then wb Γ1 Q X else Q (.sh (.bool false)) Γ1) X) := rfl
@[simp ↓] theorem ev_wOrV (wa wb : WE) (Γ : Ev) (Q : R → Ev → Prop) (X : XW) : wOrV wa wb Γ Q X = (wa Γ (fun r Γ1 => rdW r Γ1 fun d => isB d fun b => if b = true then Q (.sh (.bool true)) Γ1 else wb Γ1 Q X) X) := rfl
@[simp ↓] theorem ev_wNotV (wa : WE) (Γ : Ev) (Q : R → Ev → Prop) (X : XW) : wNotV wa Γ Q X = (wa Γ (fun r Γ1 => rdW r Γ1 fun d => isB d fun b => Q (.sh (.bool (!b))) Γ1) X) := rfl
@[simp ↓] theorem ev_wIf (c : WT) (wa wb : WE) (Γ : Ev) (Q : R → Ev → Prop) (X : XW) : wIf c wa wb Γ Q X = (c Γ (fun b Γ1 => if b = true then wa Γ1 Q X else wb Γ1 Q X) X) := rfl
@[simp ↓] theorem ev_wChain (o o' : Op2) (wa wb wc : WE) (Γ : Ev) (Q : R → Ev → Prop) (X : XW) : wChain o o' wa wb wc Γ Q X =
    (wa Γ (fun ra Γ1 => wb Γ1 (fun rb Γ2 => rdW ra Γ2 fun a => rdW rb Γ2 fun b => o a b fun r => rdW r Γ2 fun d => isB d fun z =>
      if z = true then wc Γ2 (fun rc Γ3 => rdW rb Γ3 fun b' => rdW rc Γ3 fun c' => o' b' c' fun r => Q r Γ3) X else Q (.sh (.bool false)) Γ2) X) X) := rfl
@[simp ↓] theorem ev_wNil (Γ : Ev) (Q : List R → Ev → Prop) (X : XW) : wNil Γ Q X = (Q [] Γ) := rfl
@[simp ↓] theorem ev_wCons (wa : WE) (wr : WA) (Γ : Ev) (Q : List R → Ev → Prop) (X : XW) : wCons wa wr Γ Q X = (wa Γ (fun r Γ1 => wr Γ1 (fun rs Γ2 => Q (r :: rs) Γ2) X) X) := rfl
@[simp ↓] theorem ev_wTup (wa : WA) (Γ : Ev) (Q : R → Ev → Prop) (X : XW) : wTup wa Γ Q X = (wa Γ (fun rs Γ1 => frAll rs Γ1 fun ds Γ2 => ds.length ≤ 1000 ∧ Q (.sh (.tuple ds)) Γ2) X) := rfl
@[simp ↓] theorem ev_wLst (wa : WA) (Γ : Ev) (Q : R → Ev → Prop) (X : XW) : wLst wa Γ Q X = (wa Γ (fun rs Γ1 => frAll rs Γ1 fun ds Γ2 => ds.length ≤ 1000 ∧ Q (.ow (.list ds)) Γ2) X) := rfl
@[simp ↓] theorem ev_wCB (o : OpN) (wa : WA) (Γ : Ev) (Q : R → Ev → Prop) (X : XW) : wCB o wa Γ Q X = (wa Γ (fun rs Γ1 => rdAll rs Γ1 fun ds => o ds fun r => Q r Γ1) X) := rfl
@[simp ↓] theorem ev_wNext (Γ : Ev) (D : WD) (X : XW) : wNext Γ D X = (D.nx Γ) := rfl
@[simp ↓] theorem ev_wSeq (a b : WS) (Γ : Ev) (D : WD) (X : XW) : wSeq a b Γ D X = (a Γ ⟨fun Γ1 => b Γ1 D X, D.rt, D.bk, D.ct⟩ X) := rfl
@[simp ↓] theorem ev_wBrk (Γ : Ev) (D : WD) (X : XW) : wBrk Γ D X = (D.bk Γ) := rfl
@[simp ↓] theorem ev_wCnt (Γ : Ev) (D : WD) (X : XW) : wCnt Γ D X = (D.ct Γ) := rfl
@[simp ↓] theorem ev_wDrop (w : WE) (Γ : Ev) (D : WD) (X : XW) : wDrop w Γ D X = (w Γ (fun _ Γ1 => D.nx Γ1) X) := rfl
@[simp ↓] theorem ev_wRet (w : WE) (Γ : Ev) (D : WD) (X : XW) : wRet w Γ D X = (w Γ (fun r Γ1 => D.rt r Γ1) X) := rfl
@[simp ↓] theorem ev_wRetN (Γ : Ev) (D : WD) (X : XW) : wRetN Γ D X = (D.rt (.sh .none) Γ) := rfl
@[simp ↓] theorem ev_wIfS (c : WT) (a b : WS) (Γ : Ev) (D : WD) (X : XW) : wIfS c a b Γ D X = (c Γ (fun z Γ1 => if z = true then a Γ1 D X else b Γ1 D X) X) := rfl
@[simp ↓] theorem ev_wSet (i : Nat) (w : WE) (Γ : Ev) (D : WD) (X : XW) : wSet i w Γ D X = (w Γ (fun r Γ1 => setR i r Γ1 D.nx) X) := rfl
@[simp ↓] theorem ev_wAsg (w : WE) (g : WG) (Γ : Ev) (D : WD) (X : XW) : wAsg w g Γ D X = (w Γ (fun r Γ1 => frW r Γ1 fun d Γ2 => g d Γ2 D.nx) X) := rfl
@[simp ↓] theorem ev_wFor (wi : WI) (g : WG) (b : WS) (Γ : Ev) (D : WD) (X : XW) : wFor wi g b Γ D X = (wi Γ (fun ds Γ1 => loopW g b D X ds Γ1) X) := rfl
@[simp ↓] theorem ev_wiL (w : WE) (Γ : Ev) (Q : List PyData → Ev → Prop) (X : XW) : wiL w Γ Q X = (w Γ (fun r Γ1 => frW r Γ1 fun d Γ2 => isL d fun ds => Q ds Γ2) X) := rfl
@[simp ↓] theorem ev_wiR1 (wa : WA) (Γ : Ev) (Q : List PyData → Ev → Prop) (X : XW) : wiR1 wa Γ Q X =
    (wa Γ (fun rs Γ1 => rdAll rs Γ1 fun ds => match ds with
      | [.int j] => -(2 ^ 62) ≤ j ∧ j < 2 ^ 62 ∧ Q (rangeD 0 j.toNat) Γ1
      | _ => False) X) := rfl
@[simp ↓] theorem ev_wiR2 (wa : WA) (Γ : Ev) (Q : List PyData → Ev → Prop) (X : XW) : wiR2 wa Γ Q X =
    (wa Γ (fun rs Γ1 => rdAll rs Γ1 fun ds => match ds with
      | [.int i, .int j] => (-(2 ^ 62) ≤ i ∧ i < 2 ^ 62 ∧ -(2 ^ 62) ≤ j ∧ j < 2 ^ 62) ∧ Q (rangeD i (j - i).toNat) Γ1
      | _ => False) X) := rfl
@[simp ↓] theorem ev_wiA (f : List D → List D) (wa : WA) (Γ : Ev) (Q : List PyData → Ev → Prop) (X : XW) : wiA f wa Γ Q X =
    (wa Γ (fun rs Γ1 => frAll rs Γ1 fun ds Γ2 => match ds with
      | [.list l] => Q (f l) Γ2
      | _ => False) X) := rfl
@[simp ↓] theorem ev_wiZ (wa : WA) (Γ : Ev) (Q : List PyData → Ev → Prop) (X : XW) : wiZ wa Γ Q X =
    (wa Γ (fun rs Γ1 => frAll rs Γ1 fun ds Γ2 => match ds with
      | [.list l, .list m] => Q (List.zipWith (fun x y => .tuple [x, y]) l m) Γ2
      | _ => False) X) := rfl
@[simp ↓] theorem ev_wiS (w : WE) (Γ : Ev) (Q : List PyData → Ev → Prop) (X : XW) : wiS w Γ Q X = (w Γ (fun r Γ1 => rdW r Γ1 fun d => isS d fun z => Q (signsD z) Γ1) X) := rfl
@[simp ↓] theorem ev_wNoP (Γ : Ev) (Q : Option Int → Ev → Prop) (X : XW) : wNoP Γ Q X = (Q none Γ) := rfl
@[simp ↓] theorem ev_wPart (w : WE) (Γ : Ev) (Q : Option Int → Ev → Prop) (X : XW) : wPart w Γ Q X = (w Γ (fun r Γ1 => rdW r Γ1 fun d => isI d fun i => Q (some i) Γ1) X) := rfl
@[simp ↓] theorem ev_wSlL (wa : WE) (wl wh : WO) (Γ : Ev) (Q : R → Ev → Prop) (X : XW) : wSlL wa wl wh Γ Q X = (wa Γ (fun r Γ1 => wl Γ1 (fun lo Γ2 => wh Γ2 (fun hi Γ3 => rdW r Γ3 fun d => isL d fun ds => Q (.ow (.list (cutD ds lo hi))) Γ3) X) X) X) := rfl
@[simp ↓] theorem ev_wIsi (T : String) (w : WE) (Γ : Ev) (Q : R → Ev → Prop) (X : XW) : wIsi T w Γ Q X = (w Γ (fun r Γ1 => rdW r Γ1 fun d => Q (.sh (.bool (isT (tyN d) T))) Γ1) X) := rfl
@[simp ↓] theorem ev_wIsi2 (T U : String) (w : WE) (Γ : Ev) (Q : R → Ev → Prop) (X : XW) : wIsi2 T U w Γ Q X = (w Γ (fun r Γ1 => rdW r Γ1 fun d => Q (.sh (.bool (isT (tyN d) T || isT (tyN d) U))) Γ1) X) := rfl
@[simp ↓] theorem ev_wMut (i : Nat) (f : OpM) (wa : WA) (Γ : Ev) (Q : R → Ev → Prop) (X : XW) : wMut i f wa Γ Q X = (owW i Γ fun d _ => isL d fun _ => wa Γ (fun rs Γ1 => frAll rs Γ1 fun ds Γ2 => owW i Γ2 fun d f' => isL d fun l => f l ds fun l' r => Q (.sh r) (f' (.list l'))) X) := rfl
@[simp ↓] theorem ev_wMut0 (i : Nat) (f : OpM) (Γ : Ev) (Q : R → Ev → Prop) (X : XW) : wMut0 i f Γ Q X = (owW i Γ fun d f' => isL d fun l => f l [] fun l' r => Q (.sh r) (f' (.list l'))) := rfl
@[simp ↓] theorem ev_wDict0 (Γ : Ev) (Q : R → Ev → Prop) (X : XW) : wDict0 Γ Q X = (Q (.ow (.dict [])) Γ) := rfl
@[simp ↓] theorem ev_wDGet1 (wd wk : WE) (Γ : Ev) (Q : R → Ev → Prop) (X : XW) : wDGet1 wd wk Γ Q X = (wd Γ (fun r Γ1 => rdW r Γ1 fun d => isD d fun _ => wk Γ1 (fun rk Γ2 => rdW r Γ2 fun d => isD d fun ps => rdW rk Γ2 fun key => isK key (Q (.sh ((dget ps key).getD .none)) Γ2)) X) X) := rfl
@[simp ↓] theorem ev_wDGet2 (wd wk wx : WE) (Γ : Ev) (Q : R → Ev → Prop) (X : XW) : wDGet2 wd wk wx Γ Q X =
    (wd Γ (fun r Γ1 => rdW r Γ1 fun d => isD d fun _ => wk Γ1 (fun rk Γ2 => wx Γ2 (fun rx Γ3 => frW rx Γ3 fun dx Γ4 =>
      rdW r Γ4 fun d => isD d fun ps => rdW rk Γ4 fun key => isK key (Q (.sh ((dget ps key).getD dx)) Γ4)) X) X) X) := rfl
@[simp ↓] theorem ev_wDPut (i : Nat) (wk wv : WE) (Γ : Ev) (D : WD) (X : XW) : wDPut i wk wv Γ D X = (wv Γ (fun rv Γ1 => owW i Γ1 fun _ _ => wk Γ1 (fun rk Γ2 => frW rv Γ2 fun dv Γ3 => rdW rk Γ3 fun key => isK key (owW i Γ3 fun d f => isD d fun ps => ps.length < sizeLine ∧ D.nx (f (.dict (dput ps key dv))))) X) X) := rfl
@[simp ↓] theorem ev_wLPut (i : Nat) (wk wv : WE) (Γ : Ev) (D : WD) (X : XW) : wLPut i wk wv Γ D X =
    (wv Γ (fun rv Γ1 => owW i Γ1 fun _ _ => wk Γ1 (fun rk Γ2 => frW rv Γ2 fun dv Γ3 => rdW rk Γ3 fun key => isI key fun n => owW i Γ3 fun d f => isL d fun l =>
      match ixN l.length n with
      | some j => D.nx (f (.list (l.set j dv)))
      | none => False) X) X) := rfl
@[simp ↓] theorem ev_wExt (i : Nat) (w : WE) (Γ : Ev) (Q : R → Ev → Prop) (X : XW) : wExt i w Γ Q X = (owW i Γ fun d _ => isL d fun _ => w Γ (fun r Γ1 => frW r Γ1 fun d Γ2 => isL d fun ys => owW i Γ2 fun d f => isL d fun l => l.length + ys.length ≤ sizeLine ∧ Q (.sh .none) (f (.list (l ++ ys)))) X) := rfl
@[simp ↓] theorem ev_wsNil (Γ : Ev) (Q : List Sl → Ev → Prop) (X : XW) : wsNil Γ Q X = (Q [] Γ) := rfl
@[simp ↓] theorem ev_wsCons (w : WE) (ws : WSl) (Γ : Ev) (Q : List Sl → Ev → Prop) (X : XW) : wsCons w ws Γ Q X = (w Γ (fun r Γ1 => slW r Γ1 fun s Γ2 => ws Γ2 (fun ss Γ3 => Q (s :: ss) Γ3) X) X) := rfl
@[simp ↓] theorem ev_wPar (is : List Nat) (ws : WSl) (Γ : Ev) (D : WD) (X : XW) : wPar is ws Γ D X = (ws Γ (fun ss Γ1 => ss.length = is.length ∧ (∀ i ∈ is, i < Γ1.length) ∧ D.nx ((is.zip ss).foldl (fun Γ p => Γ.set p.1 p.2) Γ1)) X) := rfl
@[simp ↓] theorem ev_wYes (Γ : Ev) (Q : Bool → Ev → Prop) (X : XW) : wYes Γ Q X = (Q true Γ) := rfl
@[simp ↓] theorem ev_wCall (fs : FS) (dv : List D) (wa : WA) (Γ : Ev) (Q : R → Ev → Prop) (X : XW) : wCall fs dv wa Γ Q X = (wa Γ (fun rs Γ1 => frAll rs Γ1 fun ds Γ2 => fs none (ds ++ dv) (fun r _ => Q r Γ2) fun x _ => X x Γ2) X) := rfl
@[simp ↓] theorem ev_wRevL (wa : WE) (Γ : Ev) (Q : R → Ev → Prop) (X : XW) : wRevL wa Γ Q X = (wa Γ (fun r Γ1 => rdW r Γ1 fun d => isL d fun ds => Q (.ow (.list ds.reverse)) Γ1) X) := rfl
@[simp ↓] theorem ev_wCallB (fs : FS) (dv : List D) (wa : WA) (Γ : Ev) (Q : R → Ev → Prop) (X : XW) : wCallB fs dv wa Γ Q X = (wa Γ (fun rs Γ1 => rdAll rs Γ1 fun ds => fs none (ds ++ dv) (fun r _ => flatR r ∧ Q r Γ1) fun x _ => x.idx = none ∧ X x Γ1) X) := rfl
@[simp ↓] theorem ev_rd_sh (d : D) (Γ : Ev) (k : D → Prop) : rdW (.sh d) Γ k = k d := rfl
@[simp ↓] theorem ev_rd_ow (d : D) (Γ : Ev) (k : D → Prop) : rdW (.ow d) Γ k = k d := rfl
def getS : Ev → Nat → (Sl → Prop) → Prop
  | [], _, _ => False
  | s :: _, 0, k => k s
  | _ :: Γ, i + 1, k => getS Γ i k
theorem getS_at : ∀ (Γ : Ev) (i : Nat) (k : Sl → Prop), getS Γ i k = (match Γ[i]? with
  | some s => k s
  | none => False)
  | [], i, k => by simp [getS]
  | s :: _, 0, k => rfl
  | _ :: Γ, i + 1, k => by rw [getS, getS_at Γ i k]; simp
@[simp ↓] theorem getS_0 (s : Sl) (Γ : Ev) (k : Sl → Prop) : getS (s :: Γ) 0 k = k s := rfl
@[simp ↓] theorem getS_s (s : Sl) (Γ : Ev) (i : Nat) (k : Sl → Prop) : getS (s :: Γ) (i + 1) k = getS Γ i k := rfl
def slVar : Sl → Nat → Ev → (R → Ev → Prop) → Prop
  | .sh d, _, Γ, Q => Q (.sh d) Γ
  | .ow _, i, Γ, Q => Q (.vr i) Γ
  | .io _, i, Γ, Q => Q (.vr i) Γ
  | .op _ _, i, Γ, Q => Q (.vr i) Γ
  | .no, _, _, _ => False
@[simp ↓] theorem slVar_sh (d : D) (i : Nat) (Γ : Ev) (Q : R → Ev → Prop) : slVar (.sh d) i Γ Q = Q (.sh d) Γ := rfl
@[simp ↓] theorem slVar_ow (d : D) (i : Nat) (Γ : Ev) (Q : R → Ev → Prop) : slVar (.ow d) i Γ Q = Q (.vr i) Γ := rfl
@[simp ↓] theorem slVar_io (d : D) (i : Nat) (Γ : Ev) (Q : R → Ev → Prop) : slVar (.io d) i Γ Q = Q (.vr i) Γ := rfl
@[simp ↓] theorem slVar_op (t : Nat) (d : D) (i : Nat) (Γ : Ev) (Q : R → Ev → Prop) : slVar (.op t d) i Γ Q = Q (.vr i) Γ := rfl
@[simp ↓] theorem ev_wVar (i : Nat) (Γ : Ev) (Q : R → Ev → Prop) (X : XW) : wVar i Γ Q X = getS Γ i fun s => slVar s i Γ Q := by
  rw [getS_at]
  unfold wVar
  cases Γ[i]? with
  | none => rfl
  | some s => cases s <;> rfl
def slRd : Sl → (D → Prop) → Prop
  | .sh d, k => k d
  | .ow d, k => k d
  | .io d, k => k d
  | _, _ => False
@[simp ↓] theorem slRd_sh (d : D) (k : D → Prop) : slRd (.sh d) k = k d := rfl
@[simp ↓] theorem slRd_ow (d : D) (k : D → Prop) : slRd (.ow d) k = k d := rfl
@[simp ↓] theorem slRd_io (d : D) (k : D → Prop) : slRd (.io d) k = k d := rfl
@[simp ↓] theorem ev_rd_vr (i : Nat) (Γ : Ev) (k : D → Prop) : rdW (.vr i) Γ k = getS Γ i fun s => slRd s k := by
  rw [getS_at]
  unfold rdW
  dsimp only
  cases Γ[i]? with
  | none => rfl
  | some s => cases s <;> rfl
def slFr : Sl → Nat → Ev → (D → Ev → Prop) → Prop
  | .sh d, _, Γ, k => k d Γ
  | .ow d, i, Γ, k => k d (Γ.set i (.sh d))
  | _, _, _, _ => False
@[simp ↓] theorem slFr_sh (d : D) (i : Nat) (Γ : Ev) (k : D → Ev → Prop) : slFr (.sh d) i Γ k = k d Γ := rfl
@[simp ↓] theorem slFr_ow (d : D) (i : Nat) (Γ : Ev) (k : D → Ev → Prop) : slFr (.ow d) i Γ k = k d (Γ.set i (.sh d)) := rfl
def slOw : Sl → Nat → Ev → (D → (D → Ev) → Prop) → Prop
  | .ow d, i, Γ, k => k d fun d' => Γ.set i (.ow d')
  | .io d, i, Γ, k => k d fun d' => Γ.set i (.io d')
  | _, _, _, _ => False
@[simp ↓] theorem slOw_ow (d : D) (i : Nat) (Γ : Ev) (k : D → (D → Ev) → Prop) : slOw (.ow d) i Γ k = k d fun d' => Γ.set i (.ow d') := rfl
@[simp ↓] theorem slOw_io (d : D) (i : Nat) (Γ : Ev) (k : D → (D → Ev) → Prop) : slOw (.io d) i Γ k = k d fun d' => Γ.set i (.io d') := rfl
@[simp ↓] theorem ev_owW (i : Nat) (Γ : Ev) (k : D → (D → Ev) → Prop) : owW i Γ k = getS Γ i fun s => slOw s i Γ k := by
  rw [getS_at]
  unfold owW
  cases Γ[i]? with
  | none => rfl
  | some s => cases s <;> rfl
def slSh : Sl → (D → Prop) → Prop
  | .sh d, k => k d
  | _, _ => False
@[simp ↓] theorem slSh_sh (d : D) (k : D → Prop) : slSh (.sh d) k = k d := rfl
@[simp ↓] theorem ev_wAug (i : Nat) (o : Op2) (w : WE) (Γ : Ev) (D : WD) (X : XW) : wAug i o w Γ D X = getS Γ i fun s => slSh s fun a => w Γ (fun r Γ1 => rdW r Γ1 fun b => o a b fun r2 => setR i r2 Γ1 D.nx) X := by
  rw [getS_at]
  unfold wAug
  cases Γ[i]? with
  | none => rfl
  | some s => cases s <;> rfl
def slIo : Sl → Nat → Ev → (Sl → (Option Sl → Ev) → Prop) → Prop
  | .ow d, i, Γ, k => k (.io d) fun s => match s with
    | some (.io d') => Γ.set i (.ow d')
    | _ => Γ
  | .io d, i, Γ, k => k (.io d) fun s => match s with
    | some (.io d') => Γ.set i (.io d')
    | _ => Γ
  | .op t d, i, Γ, k => k (.op (hand t) d) fun s => match s with
    | some (.op _ d') => Γ.set i (.op t d')
    | _ => Γ
  | _, _, _, _ => False
@[simp ↓] theorem slIo_ow (d : D) (i : Nat) (Γ : Ev) (k : Sl → (Option Sl → Ev) → Prop) : slIo (.ow d) i Γ k = k (.io d) fun s => match s with
    | some (.io d') => Γ.set i (.ow d')
    | _ => Γ := rfl
@[simp ↓] theorem slIo_io (d : D) (i : Nat) (Γ : Ev) (k : Sl → (Option Sl → Ev) → Prop) : slIo (.io d) i Γ k = k (.io d) fun s => match s with
    | some (.io d') => Γ.set i (.io d')
    | _ => Γ := rfl
@[simp ↓] theorem slIo_op (t : Nat) (d : D) (i : Nat) (Γ : Ev) (k : Sl → (Option Sl → Ev) → Prop) : slIo (.op t d) i Γ k = k (.op (hand t) d) fun s => match s with
    | some (.op _ d') => Γ.set i (.op t d')
    | _ => Γ := rfl
@[simp ↓] theorem ev_ioW (i : Nat) (Γ : Ev) (k : Sl → (Option Sl → Ev) → Prop) : ioW i Γ k = getS Γ i fun s => slIo s i Γ k := by
  rw [getS_at]
  unfold ioW
  cases Γ[i]? with
  | none => rfl
  | some s => cases s <;> rfl
def slIs : Sl → Prop
  | .ow _ => True
  | .io _ => True
  | .op _ _ => True
  | _ => False
@[simp] theorem slIs_ow (d : D) : slIs (.ow d) = True := rfl
@[simp] theorem slIs_io (d : D) : slIs (.io d) = True := rfl
@[simp] theorem slIs_op (t : Nat) (d : D) : slIs (.op t d) = True := rfl
@[simp ↓] theorem ev_isOwn (i : Nat) (Γ : Ev) : isOwn Γ i = getS Γ i slIs := by
  rw [getS_at]
  unfold isOwn
  cases Γ[i]? with
  | none => rfl
  | some s => cases s <;> rfl
@[simp ↓] theorem ev_wCallIo (fs : FS) (i : Nat) (dv : List D) (wa : WA) (Γ : Ev) (Q : R → Ev → Prop) (X : XW) : wCallIo fs i dv wa Γ Q X = (isOwn Γ i ∧ wa Γ (fun rs Γ1 => frAll rs Γ1 fun ds Γ2 => ioW i Γ2 fun s f => fs (some s) (ds ++ dv) (fun r io => SameIo (some s) io ∧ Q r (f io)) fun x io => SameIo (some s) io ∧ X x (f io)) X) := rfl
def slScr : Sl → (List D → Prop) → Prop
  | .op 0 (.list l), k => k l
  | _, _ => False
@[simp ↓] theorem slScr_op (l : List D) (k : List D → Prop) : slScr (.op 0 (.list l)) k = k l := rfl
@[simp ↓] theorem ev_wLenS (i : Nat) (Γ : Ev) (Q : R → Ev → Prop) (X : XW) : wLenS i Γ Q X = getS Γ i fun s => slScr s fun l => Q (.sh (.int (l.length : Int))) Γ := by
  rw [getS_at]
  unfold wLenS
  cases Γ[i]? with
  | none => rfl
  | some s =>
    cases s with
    | op t d => cases t <;> cases d <;> rfl
    | _ => rfl
@[simp ↓] theorem ev_wIxS (i : Nat) (wa : WE) (Γ : Ev) (Q : R → Ev → Prop) (X : XW) : wIxS i wa Γ Q X = (isOwn Γ i ∧ wa Γ (fun r Γ1 => rdW r Γ1 fun d => isI d fun n => getS Γ1 i fun s => slScr s fun l => match atI l n with
    | some d => Q (.sh d) Γ1
    | none => False) X) := by
  unfold wIxS
  congr 1
  congr 1
  funext r Γ1
  congr 1
  funext d
  congr 1
  funext n
  rw [getS_at]
  cases Γ1[i]? with
  | none => rfl
  | some s =>
    cases s with
    | op t d => cases t <;> cases d <;> rfl
    | _ => rfl
@[simp ↓] theorem ev_fr_sh (d : D) (Γ : Ev) (k : D → Ev → Prop) : frW (.sh d) Γ k = k d Γ := rfl
@[simp ↓] theorem ev_fr_ow (d : D) (Γ : Ev) (k : D → Ev → Prop) : frW (.ow d) Γ k = k d Γ := rfl
@[simp ↓] theorem ev_fr_vr (i : Nat) (Γ : Ev) (k : D → Ev → Prop) : frW (.vr i) Γ k = getS Γ i fun s => slFr s i Γ k := by
  rw [getS_at]
  unfold frW
  dsimp only
  cases Γ[i]? with
  | none => rfl
  | some s => cases s <;> rfl
@[simp ↓] theorem ev_frAll_nil (Γ : Ev) (k : List D → Ev → Prop) : frAll [] Γ k = k [] Γ := rfl
@[simp ↓] theorem ev_frAll_cons (r : R) (rs : List R) (Γ : Ev) (k : List D → Ev → Prop) : frAll (r :: rs) Γ k = frW r Γ fun d Γ1 => frAll rs Γ1 fun ds Γ2 => k (d :: ds) Γ2 := rfl
@[simp ↓] theorem ev_rdAll_nil (Γ : Ev) (k : List D → Prop) : rdAll [] Γ k = k [] := rfl
@[simp ↓] theorem ev_rdAll_cons (r : R) (rs : List R) (Γ : Ev) (k : List D → Prop) : rdAll (r :: rs) Γ k = rdW r Γ fun d => rdAll rs Γ fun ds => k (d :: ds) := rfl
@[simp ↓] theorem ev_setR_sh (i : Nat) (d : D) (Γ : Ev) (k : Ev → Prop) : setR i (.sh d) Γ k = k (Γ.set i (.sh d)) := rfl
@[simp ↓] theorem ev_setR_ow (i : Nat) (d : D) (Γ : Ev) (k : Ev → Prop) : setR i (.ow d) Γ k = k (Γ.set i (.ow d)) := rfl
@[simp ↓] theorem ev_setR_vr (i j : Nat) (Γ : Ev) (k : Ev → Prop) : setR i (.vr j) Γ k = frW (.vr j) Γ fun d Γ1 => k (Γ1.set i (.sh d)) := rfl
@[simp ↓] theorem ev_isI (i : Int) (k : Int → Prop) : isI (.int i) k = k i := rfl
@[simp ↓] theorem ev_isB (i : Bool) (k : Bool → Prop) : isB (.bool i) k = k i := rfl
@[simp ↓] theorem ev_isS (i : Str) (k : Str → Prop) : isS (.str i) k = k i := rfl
@[simp ↓] theorem ev_isL (i : List D) (k : List D → Prop) : isL (.list i) k = k i := rfl
@[simp ↓] theorem ev_isD (i : List (D × D)) (k : List (D × D) → Prop) : isD (.dict i) k = k i := rfl
@[simp ↓] theorem ev_isN (k : Prop) : isN .none k = k := rfl
@[simp ↓] theorem ev_isKi (i : Int) (k : Prop) : isK (.int i) k = k := rfl
@[simp ↓] theorem ev_isKs (i : Str) (k : Prop) : isK (.str i) k = k := rfl
@[simp ↓] theorem ev_oII (P : Int → Int → Prop) (g : Int → Int → Int) (i j : Int) (k : R → Prop) : oII P g (.int i) (.int j) k = (P i j ∧ k (.sh (.int (g i j)))) := rfl
@[simp ↓] theorem ev_oIB (g : Int → Int → Bool) (i j : Int) (k : R → Prop) : oIB g (.int i) (.int j) k = k (.sh (.bool (g i j))) := rfl
@[simp ↓] theorem ev_o1 (o : Op1) (d : D) (k : R → Prop) : o1 o [d] k = o d k := rfl
@[simp ↓] theorem ev_o2 (o : Op2) (d e : D) (k : R → Prop) : o2 o [d, e] k = o d e k := rfl
@[simp ↓] theorem ev_len_l (l : List D) (k : R → Prop) : oLen (.list l) k = k (.sh (.int l.length)) := rfl
@[simp ↓] theorem ev_len_t (l : List D) (k : R → Prop) : oLen (.tuple l) k = k (.sh (.int l.length)) := rfl
@[simp ↓] theorem ev_len_s (z : Str) (k : R → Prop) : oLen (.str z) k = (z.length ≤ sizeLine ∧ k (.sh (.int z.length))) := rfl
@[simp ↓] theorem ev_len_d (l : List (D × D)) (k : R → Prop) : oLen (.dict l) k = k (.sh (.int l.length)) := rfl
@[simp ↓] theorem ev_isNd (a : D) (k : R → Prop) : oIsN a .none k = k (.sh (.bool (isNone a))) := rfl
@[simp ↓] theorem ev_notNd (a : D) (k : R → Prop) : oNotN a .none k = k (.sh (.bool (!isNone a))) := rfl
@[simp ↓] theorem ev_isNone_n : isNone .none = true := rfl
@[simp ↓] theorem ev_isNone_i (i : Int) : isNone (.int i) = false := rfl
@[simp ↓] theorem ev_isNone_t (i : List D) : isNone (.tuple i) = false := rfl
@[simp ↓] theorem ev_isNone_l (i : List D) : isNone (.list i) = false := rfl
@[simp ↓] theorem ev_isNone_s (i : Str) : isNone (.str i) = false := rfl
@[simp ↓] theorem ev_wgName (i : Nat) (d : D) (Γ : Ev) (k : Ev → Prop) : wgName i d Γ k = k (Γ.set i (.sh d)) := rfl
@[simp ↓] theorem ev_wgTup (n : Nat) (b : WGs) (ds : List D) (Γ : Ev) (k : Ev → Prop) : wgTup n b (.tuple ds) Γ k = (ds.length = n ∧ b ds Γ k) := rfl
@[simp ↓] theorem ev_wgNil (Γ : Ev) (k : Ev → Prop) : wgNil [] Γ k = k Γ := rfl
@[simp ↓] theorem ev_wgCons (a : WG) (b : WGs) (d : D) (ds : List D) (Γ : Ev) (k : Ev → Prop) : wgCons a b (d :: ds) Γ k = a d Γ fun Γ1 => b ds Γ1 k := rfl
@[simp ↓] theorem ev_loop_nil (g : WG) (b : WS) (D : WD) (X : XW) (Γ : Ev) : loopW g b D X [] Γ = D.nx Γ := rfl
theorem ev_loop_cons (g : WG) (b : WS) (D : WD) (X : XW) (d : PyData) (ds : List PyData) (Γ : Ev) : loopW g b D X (d :: ds) Γ = g d Γ fun Γ1 => b Γ1 ⟨loopW g b D X ds, D.rt, D.nx, loopW g b D X ds⟩ X := rfl
@[simp ↓] theorem ev_oEq (a b : D) (k : R → Prop) : oEq a b k = (SeqAt.shaped a = true ∧ SeqAt.shaped b = true ∧ k (.sh (.bool (PyData.eqv a b)))) := rfl
@[simp ↓] theorem ev_oNe (a b : D) (k : R → Prop) : oNe a b k = (SeqAt.shaped a = true ∧ SeqAt.shaped b = true ∧ k (.sh (.bool (!PyData.eqv a b)))) := rfl
@[simp ↓] theorem ev_oMul (i j : Int) (k : R → Prop) : oMul (.int i) (.int j) k = (CMulW i j ∧ k (.sh (.int (i * j)))) := rfl
@[simp ↓] theorem ev_oAdd_i (i j : Int) (k : R → Prop) : oAdd (.int i) (.int j) k = k (.sh (.int (i + j))) := rfl
@[simp ↓] theorem ev_oAdd_s (i j : Str) (k : R → Prop) : oAdd (.str i) (.str j) k = (i.length + j.length ≤ sizeLine ∧ k (.sh (.str (i ++ j)))) := rfl
@[simp ↓] theorem ev_oAdd_l (i j : List D) (k : R → Prop) : oAdd (.list i) (.list j) k = (i.length + j.length ≤ sizeLine ∧ k (.ow (.list (i ++ j)))) := rfl
@[simp ↓] theorem ev_oInt_i (i : Int) (k : R → Prop) : oInt (.int i) k = k (.sh (.int i)) := rfl
@[simp ↓] theorem ev_oInt_b (i : Bool) (k : R → Prop) : oInt (.bool i) k = k (.sh (.int (if i then 1 else 0))) := rfl
@[simp ↓] theorem ev_oMax (i j : Int) (k : R → Prop) : oMax (.int i) (.int j) k = k (.sh (.int (if j > i then j else i))) := rfl
@[simp ↓] theorem ev_oMin (i j : Int) (k : R → Prop) : oMin (.int i) (.int j) k = k (.sh (.int (if j < i then j else i))) := rfl
theorem ev_ixt (l : List D) (i : Int) (k : R → Prop) : oIx (.tuple l) (.int i) k = (match atI l i with
  | some d => k (.sh d)
  | none => False) := rfl
theorem ev_ixl (l : List D) (i : Int) (k : R → Prop) : oIx (.list l) (.int i) k = (match atI l i with
  | some d => k (.sh d)
  | none => False) := rfl
theorem ev_ixd (l : List (D × D)) (i : D) (k : R → Prop) : oIx (.dict l) i k = isK i (match dget l i with
  | some d => k (.sh d)
  | none => False) := rfl
@[simp ↓] theorem ix_t0 (a : D) (l : List D) (k : R → Prop) : oIx (.tuple (a :: l)) (.int 0) k = k (.sh a) := by
  rw [ev_ixt]
  have : atI (a :: l) 0 = some a := by unfold atI; simp [ixN]
  rw [this]
@[simp ↓] theorem ix_t1 (a b : D) (l : List D) (k : R → Prop) : oIx (.tuple (a :: b :: l)) (.int 1) k = k (.sh b) := by
  rw [ev_ixt]
  have : atI (a :: b :: l) 1 = some b := by
    unfold atI
    simp only [ixN, List.length_cons]
    rw [if_pos (by decide), if_pos (by omega)]
    rfl
  rw [this]
@[simp ↓] theorem ix_t2 (a b c : D) (l : List D) (k : R → Prop) : oIx (.tuple (a :: b :: c :: l)) (.int 2) k = k (.sh c) := by
  rw [ev_ixt]
  have : atI (a :: b :: c :: l) 2 = some c := by
    unfold atI
    simp only [ixN, List.length_cons]
    rw [if_pos (by decide), if_pos (by omega)]
    rfl
  rw [this]
@[simp ↓] theorem ix_l0 (a : D) (l : List D) (k : R → Prop) : oIx (.list (a :: l)) (.int 0) k = k (.sh a) := ix_t0 a l k
@[simp ↓] theorem ix_l1 (a b : D) (l : List D) (k : R → Prop) : oIx (.list (a :: b :: l)) (.int 1) k = k (.sh b) := ix_t1 a b l k
@[simp ↓] theorem ix_l2 (a b c : D) (l : List D) (k : R → Prop) : oIx (.list (a :: b :: c :: l)) (.int 2) k = k (.sh c) := ix_t2 a b c l k
@[simp ↓] theorem isT_self (T : String) : isT T T = true := by simp [isT]
@[simp ↓] theorem tyN_none : tyN .none = "NoneType" := rfl
@[simp ↓] theorem tyN_bool (b : Bool) : tyN (.bool b) = "bool" := rfl
@[simp ↓] theorem tyN_int (b : Int) : tyN (.int b) = "int" := rfl
@[simp ↓] theorem tyN_str (b : Str) : tyN (.str b) = "str" := rfl
@[simp ↓] theorem tyN_list (b : List D) : tyN (.list b) = "list" := rfl
@[simp ↓] theorem tyN_tuple (b : List D) : tyN (.tuple b) = "tuple" := rfl
@[simp ↓] theorem tyN_dict (b : List (D × D)) : tyN (.dict b) = "dict" := rfl
@[simp ↓] theorem ev_append (l : List D) (x : D) (k : List D → D → Prop) : fAppend l [x] k = (l.length < sizeLine ∧ k (l ++ [x]) .none) := rfl
@[simp ↓] theorem ev_in_str (neg : Bool) (a : D) (z : Str) (k : R → Prop) : oIn neg a (.str z) k = isS a fun y => ∃ c, y = ⟨#[c]⟩ ∧ k (.sh (.bool (if neg then !decide (c ∈ z.cps.toList) else decide (c ∈ z.cps.toList)))) := rfl
@[simp ↓] theorem ev_in_dict (neg : Bool) (a : D) (z : List (D × D)) (k : R → Prop) : oIn neg a (.dict z) k = isK a (k (.sh (.bool (if neg then !(dget z a).isSome else (dget z a).isSome)))) := rfl
@[simp ↓] theorem ev_in_tup (neg : Bool) (a : D) (ds : List D) (k : R → Prop) : oIn neg a (.tuple ds) k = (flatD a = true ∧ ds.all flatD = true ∧ k (.sh (.bool (if neg then !(ds.any fun z => PyData.eqv z a) else ds.any fun z => PyData.eqv z a)))) := rfl
theorem ev_wLc (vs : List Nat) (wi : WI) (g : WG) (t : WT) (w : WE) (Γ : Ev) (Q : R → Ev → Prop) (X : XW) : wLc vs wi g t w Γ Q X = wi Γ (fun ds Γ1 => okW Γ1 vs ∧ lcW vs g t w (fun acc Γ2 => Q (.ow (.list acc)) (restE Γ1 Γ2 vs)) ds [] (wipeE Γ1 vs)) X := rfl
theorem ev_wDc (vs : List Nat) (wi : WI) (g : WG) (t : WT) (wk wv : WE) (Γ : Ev) (Q : R → Ev → Prop) (X : XW) : wDc vs wi g t wk wv Γ Q X = wi Γ (fun ds Γ1 => okW Γ1 vs ∧ dcW vs g t wk wv (fun acc Γ2 => Q (.ow (.dict acc)) (restE Γ1 Γ2 vs)) ds [] (wipeE Γ1 vs)) X := rfl
@[simp ↓] theorem slW_sh (d : D) (Γ : Ev) (k : Sl → Ev → Prop) : slW (.sh d) Γ k = k (.sh d) Γ := rfl
@[simp ↓] theorem slW_ow (d : D) (Γ : Ev) (k : Sl → Ev → Prop) : slW (.ow d) Γ k = k (.ow d) Γ := rfl
@[simp ↓] theorem slW_vr (i : Nat) (Γ : Ev) (k : Sl → Ev → Prop) : slW (.vr i) Γ k = frW (.vr i) Γ fun d Γ1 => k (.sh d) Γ1 := rfl
@[simp] theorem hand_0 : hand 0 = 0 := rfl
@[simp] theorem hand_1 : hand 1 = 1 := rfl
@[simp] theorem hand_2 : hand 2 = 2 := rfl
@[simp] theorem hand_3 : hand 3 = 3 := rfl
@[simp] theorem hand_4 : hand 4 = 4 := rfl
@[simp] theorem hand_11 : hand 11 = 1 := rfl
@[simp] theorem hand_12 : hand 12 = 2 := rfl
@[simp] theorem hand_13 : hand 13 = 3 := rfl
@[simp] theorem hand_14 : hand 14 = 4 := rfl
@[simp] theorem same_none : SameIo none none = True := rfl
@[simp] theorem same_io (a b : D) : SameIo (some (.io a)) (some (.io b)) = True := rfl
@[simp] theorem same_op (t u : Nat) (a b : D) : SameIo (some (.op t a)) (some (.op u b)) = (t = u) := rfl
@[simp] theorem ioOf_none (Γ : Ev) : ioOf none Γ = none := rfl
@[simp] theorem ioOf_some (s t : Sl) (Γ : Ev) : ioOf (some s) (t :: Γ) = some t := rfl
@[simp ↓] theorem retW_sh (d : D) (Γ : Ev) (k : R → Ev → Prop) : retW (.sh d) Γ k = k (.sh d) Γ := rfl
@[simp ↓] theorem retW_ow (d : D) (Γ : Ev) (k : R → Ev → Prop) : retW (.ow d) Γ k = k (.ow d) Γ := rfl
def slRet : Sl → Nat → Ev → (R → Ev → Prop) → Prop
  | .sh d, _, Γ, k => k (.sh d) Γ
  | .ow d, i, Γ, k => k (.ow d) (Γ.set i .no)
  | .op t d, i, Γ, k => 10 ≤ t ∧ k (.op t d) (Γ.set i .no)
  | _, _, _, _ => False
@[simp ↓] theorem slRet_op (t : Nat) (d : D) (i : Nat) (Γ : Ev) (k : R → Ev → Prop) : slRet (.op t d) i Γ k = (10 ≤ t ∧ k (.op t d) (Γ.set i .no)) := rfl
@[simp ↓] theorem retW_op (t : Nat) (d : D) (Γ : Ev) (k : R → Ev → Prop) : retW (.op t d) Γ k = (10 ≤ t ∧ k (.op t d) Γ) := rfl
@[simp ↓] theorem slW_op (t : Nat) (d : D) (Γ : Ev) (k : Sl → Ev → Prop) : slW (.op t d) Γ k = (10 ≤ t ∧ k (.op t d) Γ) := rfl
@[simp ↓] theorem ev_setR_op (i t : Nat) (d : D) (Γ : Ev) (k : Ev → Prop) : setR i (.op t d) Γ k = (10 ≤ t ∧ k (Γ.set i (.op t d))) := rfl
@[simp ↓] theorem slRet_sh (d : D) (i : Nat) (Γ : Ev) (k : R → Ev → Prop) : slRet (.sh d) i Γ k = k (.sh d) Γ := rfl
@[simp ↓] theorem slRet_ow (d : D) (i : Nat) (Γ : Ev) (k : R → Ev → Prop) : slRet (.ow d) i Γ k = k (.ow d) (Γ.set i .no) := rfl
@[simp ↓] theorem retW_vr (i : Nat) (Γ : Ev) (k : R → Ev → Prop) : retW (.vr i) Γ k = getS Γ i fun s => slRet s i Γ k := by
  rw [getS_at]
  unfold retW
  dsimp only
  cases Γ[i]? with
  | none => rfl
  | some s => cases s <;> rfl
theorem pick {l : List D} {r : Int} {k : R → Prop} (h0 : 0 ≤ r) (h : r < (l.length : Int)) (q : ∀ d, d ∈ l → k (.sh d)) : oIx (.list l) (.int r) k := by
  rw [ev_ixl]
  have : atI l r = l[r.toNat]? := by
    unfold atI ixN
    rw [if_pos h0, if_pos h]
    rfl
  have hi : r.toNat < l.length := by omega
  rw [this, List.getElem?_eq_getElem hi]
  exact q _ (List.getElem_mem hi)
end VL

set_option Elab.async false
set_option linter.all false
set_option maxRecDepth 100000
namespace SC
open PySem L2 VL

theorem small {n : Nat} (h : n ≤ 1000000) : n < sizeLine := by rw [sizeLine_eq]; omega
theorem smallE {n : Nat} (h : n ≤ 1000000) : n ≤ sizeLine := by rw [sizeLine_eq]; omega

def isIntD (v : D) (lo : Int) (hi : D) : Bool := match v with
  | .int i => decide (lo ≤ i) && (match hi with
    | .int h => decide (i ≤ h)
    | _ => true)
  | _ => false
def fs_is_integer : FS := fun io ds Q _ => io = none ∧ ∃ (v : D) (lo : Int) (hi : D), ds = [v, .int lo, hi] ∧ (hi = .none ∨ ∃ h, hi = .int h) ∧ Q (.sh (.bool (isIntD v lo hi))) none
def w_is_integer : WS := wSeq (wIfS (wOr (wNot (wT (wIsi "int" (wVar 0)))) (wOr (wT (wIsi "bool" (wVar 0))) (wT (wOp (oIB fun i j => decide (i < j)) (wVar 0) (wVar 1))))) (wRet (wC (.bool false))) (wNext)) (wRet (wOrV (wOp oIsN (wVar 2) (wC .none)) (wOp (oIB fun i j => decide (i ≤ j)) (wVar 0) (wVar 2))))
theorem fv_is_integer : FnV fs_is_integer 3 w_is_integer := by
  rintro io ds Q X ⟨rfl, v, lo, hi, rfl, hh, q⟩
  show w_is_integer [.sh v, .sh (.int lo), .sh hi] _ _
  cases v with
  | int i =>
    by_cases h : i < lo
    · have : isIntD (.int i) lo hi = false := by simp [isIntD]; intro h2; omega
      rw [this] at q
      simp [w_is_integer, isT, h, q]
    · rcases hh with rfl | ⟨z, rfl⟩
      · have : isIntD (.int i) lo .none = true := by simp [isIntD]; omega
        rw [this] at q
        simp [w_is_integer, isT, h, q]
      · have : isIntD (.int i) lo (.int z) = decide (i ≤ z) := by simp [isIntD]; omega
        rw [this] at q
        simp [w_is_integer, isT, h, q]
  | _ =>
    simp [w_is_integer, isT]
    simpa [isIntD] using q

abbrev letters : Str := "abcdefghijklmnopqrstuvwxyz"
def letter (c : Nat) : Bool := decide (c ∈ letters.cps.toList)
def nameB (s : Str) : Bool := decide (1 ≤ s.length) && decide (s.length ≤ 8) && s.cps.toList.all letter
def fs_is_name : FS := fun io ds Q _ => io = none ∧ ∃ s : Str, ds = [.str s] ∧ nameB s = true ∧ Q (.sh (.bool true)) none
def w_is_name : WS := wSeq (wIfS (wOr (wNot (wT (wIsi "str" (wVar 0)))) (wNot (wT (wChain (oIB fun i j => decide (i ≤ j)) (oIB fun i j => decide (i ≤ j)) (wC (.int 1)) (wCB (o1 oLen) (wCons (wVar 0) (wNil))) (wC (.int 8)))))) (wRet (wC (.bool false))) (wNext)) (wRet (wCB (o1 oAll) (wCons (wLc [1] (wiS (wVar 0)) (wgName 1) (wYes) (wOp (oIn false) (wVar 1) (wC (.str "abcdefghijklmnopqrstuvwxyz")))) (wNil))))
theorem lc_name (z : D) (k : List D → Ev → Prop) : ∀ (cs : List Nat) (n : Nat), cs.all letter = true → n + cs.length ≤ 1000 → k (List.replicate (n + cs.length) (.bool true)) [.sh z, .no] →
    lcW [1] (wgName 1) wYes (wOp (oIn false) (wVar 1) (wC (.str "abcdefghijklmnopqrstuvwxyz"))) k (cs.map fun c => .str ⟨#[c]⟩) (List.replicate n (.bool true)) [.sh z, .no]
  | [], n, _, _, q => by simpa [lcW] using q
  | c :: cs, n, ha, hn, q => by
    rw [List.all_cons, Bool.and_eq_true] at ha
    rw [List.length_cons] at hn q
    have h1 : decide (c ∈ letters.cps.toList) = true := ha.1
    have ih := lc_name z k cs (n + 1) ha.2 (by omega) (by rw [show n + 1 + cs.length = n + (cs.length + 1) by omega]; exact q)
    rw [List.replicate_succ'] at ih
    rw [List.map_cons]
    unfold lcW
    simp only [ev_wgName, List.set_cons_succ, List.set_cons_zero, ev_wYes, ev_wOp, ev_wVar, getS_0, getS_s, slVar_sh, ev_wC, ev_rd_sh, if_true]
    rw [ev_in_str, ev_isS]
    refine ⟨c, rfl, ?_⟩
    rw [if_neg Bool.false_ne_true, h1]
    simp only [ev_fr_sh, List.length_replicate]
    exact ⟨small (by omega), ih⟩
theorem fv_is_name : FnV fs_is_name 2 w_is_name := by
  rintro io ds Q X ⟨rfl, s, rfl, hs, q⟩
  show w_is_name [.sh (.str s), .no] _ _
  unfold nameB at hs
  rw [Bool.and_eq_true, Bool.and_eq_true] at hs
  obtain ⟨⟨h1, h2⟩, h3⟩ := hs
  have h1 := of_decide_eq_true h1
  have h2 := of_decide_eq_true h2
  have e1 : (1 : Int) ≤ (s.length : Int) := by omega
  have e2 : (s.length : Int) ≤ 8 := by omega
  simp only [w_is_name, ev_wSeq, ev_wIfS, ev_wOr, ev_wNot, ev_wT, ev_wIsi, ev_wVar, getS_0, getS_s, slVar_sh, ev_rd_sh, tyN_str, isT_self, ev_isB, Bool.not_true, Bool.false_eq_true, if_false, ev_wChain, ev_wC, ev_wCB, ev_wCons, ev_wNil, ev_rdAll_cons, ev_rdAll_nil, ev_o1, ev_len_s, ev_oIB, e1, e2, decide_true, if_true, ev_wNext, ev_wRet, ev_wLc, ev_wiS, ev_isS]
  refine ⟨smallE (by omega), ⟨trivial, trivial⟩, ?_⟩
  refine lc_name _ _ s.cps.toList 0 h3 (by have : s.cps.toList.length = s.length := by simp [Str.length]
                                           omega) ?_
  simp only [ev_rd_ow]
  refine ⟨List.replicate (0 + s.cps.toList.length) true, by simp, ?_⟩
  have : (List.replicate (0 + s.cps.toList.length) true).all id = true := by simp
  rw [this]
  exact ⟨trivial, q⟩
end SC

set_option Elab.async false
set_option linter.all false
set_option maxRecDepth 100000
namespace SC
open PySem L2 VL

inductive It where
  | bar (n : Str)
  | mark (n : Str)
  | rep (n : Str) (c : Int)
def It.d : It → D
  | .bar n => .tuple [.str "bar", .str n]
  | .mark n => .tuple [.str "mark", .str n]
  | .rep n c => .tuple [.str "repeat", .str n, .int c]
def sc (l : List It) : List D := l.map It.d
def ok : List Str → List It → Prop
  | _, [] => True
  | ms, .bar n :: r => nameB n = true ∧ ok ms r
  | ms, .mark n :: r => nameB n = true ∧ n ∉ ms ∧ ok (n :: ms) r
  | ms, .rep n c :: r => nameB n = true ∧ n ∈ ms ∧ (1 ≤ c ∧ c < 2 ^ 31) ∧ ok ms r

theorem eqv_str (x y : Str) : PyData.eqv (.str x) (.str y) = (x == y) := by simp only [PyData.eqv]
theorem eqv_int (x y : Int) : PyData.eqv (.int x) (.int y) = (x == y) := by simp only [PyData.eqv]
theorem shaped_str {x : Str} (h : PyData.strOk x = true) : SeqAt.shaped (.str x) = true := by simp [SeqAt.shaped, PyData.canLay0, PyData.depth, h]
theorem sh_bar : SeqAt.shaped (.str "bar") = true := shaped_str (by decide +kernel)
theorem sh_mark : SeqAt.shaped (.str "mark") = true := shaped_str (by decide +kernel)
theorem sh_rep : SeqAt.shaped (.str "repeat") = true := shaped_str (by decide +kernel)
theorem shaped_int (x : Int) : SeqAt.shaped (.int x) = true := by simp [SeqAt.shaped, PyData.canLay0, PyData.depth]
theorem bb : (("bar" : Str) == ("bar" : Str)) = true := by decide
theorem bm : (("bar" : Str) == ("mark" : Str)) = false := by decide
theorem br : (("bar" : Str) == ("repeat" : Str)) = false := by decide
theorem mb : (("mark" : Str) == ("bar" : Str)) = false := by decide
theorem mm : (("mark" : Str) == ("mark" : Str)) = true := by decide
theorem mr : (("mark" : Str) == ("repeat" : Str)) = false := by decide
theorem rb : (("repeat" : Str) == ("bar" : Str)) = false := by decide
theorem rm : (("repeat" : Str) == ("mark" : Str)) = false := by decide
theorem rr : (("repeat" : Str) == ("repeat" : Str)) = true := by decide

def okI (ps : List (D × D)) : It → Prop
  | .bar n => nameB n = true
  | .mark n => nameB n = true ∧ dget ps (.str n) = none
  | .rep n c => nameB n = true ∧ (dget ps (.str n)).isSome = true ∧ 1 ≤ c
def fs_is_item : FS := fun io ds Q _ => io = none ∧ ∃ (it : It) (ps : List (D × D)), ds = [it.d, .dict ps] ∧ okI ps it ∧ Q (.sh (.bool true)) none
def w_is_item : WS := wSeq (wIfS (wOr (wNot (wT (wIsi "tuple" (wVar 0)))) (wOr (wT (wOp (oIn true) (wCB (o1 oLen) (wCons (wVar 0) (wNil))) (wTup (wCons (wC (.int 2)) (wCons (wC (.int 3)) (wNil)))))) (wNot (wT (wCall fs_is_name [] (wCons (wOp oIx (wVar 0) (wC (.int 1))) (wNil))))))) (wRet (wC (.bool false))) (wNext)) (wSeq (wIfS (wT (wOp oEq (wCB (o1 oLen) (wCons (wVar 0) (wNil))) (wC (.int 3)))) (wRet (wAndV (wOp oEq (wOp oIx (wVar 0) (wC (.int 0))) (wC (.str "repeat"))) (wAndV (wOp (oIn false) (wOp oIx (wVar 0) (wC (.int 1))) (wVar 1)) (wCall fs_is_integer [.none] (wCons (wOp oIx (wVar 0) (wC (.int 2))) (wCons (wC (.int 1)) (wNil))))))) (wNext)) (wRet (wOrV (wOp oEq (wOp oIx (wVar 0) (wC (.int 0))) (wC (.str "bar"))) (wAndV (wOp oEq (wOp oIx (wVar 0) (wC (.int 0))) (wC (.str "mark"))) (wOp (oIn true) (wOp oIx (wVar 0) (wC (.int 1))) (wVar 1))))))
theorem fv_is_item : FnV fs_is_item 2 w_is_item := by
  rintro io ds Q X ⟨rfl, it, ps, rfl, h, q⟩
  show w_is_item [.sh it.d, .sh (.dict ps)] _ _
  cases it with
  | bar n =>
    simp [w_is_item, It.d, ev_in_tup, flatD, eqv_int, eqv_str, sh_bar, sh_mark, sh_rep, shaped_int, bb, bm, br, mb, mm, mr, rb, rm, rr]
    refine ⟨rfl, n, rfl, h, ?_⟩
    simpa using q
  | mark n =>
    simp [w_is_item, It.d, ev_in_tup, flatD, eqv_int, eqv_str, sh_bar, sh_mark, sh_rep, shaped_int, bb, bm, br, mb, mm, mr, rb, rm, rr]
    refine ⟨rfl, n, rfl, h.1, ?_⟩
    simp [ev_in_dict, h.2]
    simpa [mb] using q
  | rep n c =>
    simp [w_is_item, It.d, ev_in_tup, flatD, eqv_int, eqv_str, sh_bar, sh_mark, sh_rep, shaped_int, bb, bm, br, mb, mm, mr, rb, rm, rr]
    refine ⟨rfl, n, rfl, h.1, ?_⟩
    simp [ev_in_dict, h.2.1, rr]
    refine ⟨rfl, .int c, 1, .none, rfl, .inl rfl, ?_⟩
    have : isIntD (.int c) 1 .none = true := by simp [isIntD]; exact h.2.2
    rw [this]
    exact q

theorem keyEq_iff (d : D) (k : Key) : keyEq d (kD k) = true ↔ d = kD k := by
  cases k <;> cases d <;> simp [keyEq, kD]
theorem kD_inj {k k' : Key} (h : kD k = kD k') : k = k' := by
  cases k <;> cases k' <;> simp [kD] at h <;> simp [h]
theorem dget_put (ps : List (D × D)) (k k' : Key) (v : D) : dget (dput ps (kD k) v) (kD k') = if k = k' then some v else dget ps (kD k') := by
  unfold dput
  by_cases ha : (ps.any fun p => keyEq p.1 (kD k)) = true
  · rw [if_pos ha]
    unfold dget
    rw [List.find?_map]
    have e : ((fun p : D × D => keyEq p.1 (kD k')) ∘ fun p : D × D => if keyEq p.1 (kD k) = true then (p.1, v) else p) = fun p : D × D => keyEq p.1 (kD k') := by
      funext p
      show keyEq (if keyEq p.1 (kD k) = true then (p.1, v) else p).1 (kD k') = keyEq p.1 (kD k')
      split <;> rfl
    rw [e]
    cases hf : ps.find? fun p => keyEq p.1 (kD k') with
    | none =>
      by_cases hk : k = k'
      · subst hk
        obtain ⟨p, hp, h1⟩ := List.any_eq_true.mp ha
        have := List.find?_eq_none.mp hf p hp
        exact absurd h1 this
      · rw [if_neg hk]; rfl
    | some p =>
      have hp := List.find?_some hf
      have e2 := (keyEq_iff _ _).mp hp
      by_cases hk : k = k'
      · subst hk
        rw [if_pos rfl]
        simp [hp]
      · rw [if_neg hk]
        have : ¬ keyEq p.1 (kD k) = true := fun z => hk (kD_inj (((keyEq_iff _ _).mp z).symm.trans e2))
        simp [this]
  · rw [if_neg ha]
    unfold dget
    rw [List.find?_append]
    by_cases hk : k = k'
    · subst hk
      rw [if_pos rfl]
      have : (ps.find? fun p => keyEq p.1 (kD k)) = none := List.find?_eq_none.mpr fun p hp z => ha (List.any_eq_true.mpr ⟨p, hp, z⟩)
      rw [this]
      have h1 : keyEq (kD k) (kD k) = true := (keyEq_iff _ _).mpr rfl
      simp [h1]
    · rw [if_neg hk]
      have h1 : keyEq (kD k) (kD k') = false := by
        cases q : keyEq (kD k) (kD k') with
        | false => rfl
        | true => exact absurd (kD_inj ((keyEq_iff _ _).mp q)) hk
      simp [h1]
theorem dget_putS (ps : List (D × D)) (x y : Str) (v : D) : dget (dput ps (.str x) v) (.str y) = if x = y then some v else dget ps (.str y) := by
  have := dget_put ps (.inr x) (.inr y) v
  rw [show (kD (.inr x)) = .str x from rfl, show (kD (.inr y)) = .str y from rfl] at this
  rw [this]
  by_cases h : x = y
  · subst h; simp
  · rw [if_neg h, if_neg fun z => h (Sum.inr.inj z)]
theorem dget_putI (ps : List (D × D)) (x y : Int) (v : D) : dget (dput ps (.int x) v) (.int y) = if x = y then some v else dget ps (.int y) := by
  have := dget_put ps (.inl x) (.inl y) v
  rw [show (kD (.inl x)) = .int x from rfl, show (kD (.inl y)) = .int y from rfl] at this
  rw [this]
  by_cases h : x = y
  · subst h; simp
  · rw [if_neg h, if_neg fun z => h (Sum.inl.inj z)]
theorem dput_len (ps : List (D × D)) (k v : D) : (dput ps k v).length ≤ ps.length + 1 := by
  unfold dput
  split <;> simp
def Marks (ps : List (D × D)) (ms : List Str) : Prop := ∀ n, (dget ps (.str n)).isSome = decide (n ∈ ms)
theorem Marks.put {ps : List (D × D)} {ms : List Str} (h : Marks ps ms) (n : Str) (v : D) : Marks (dput ps (.str n) v) (n :: ms) := by
  intro m
  rw [dget_putS]
  by_cases e : n = m
  · subst e; simp
  · rw [if_neg e, h m]
    have : ¬ m = n := fun z => e z.symm
    simp [this]
def enumF : Nat → List D → List D
  | _, [] => []
  | n, d :: r => .tuple [.int (n : Int), d] :: enumF (n + 1) r
theorem enumF_eq : ∀ (n : Nat) (l : List D), enumF n l = l.mapIdx fun (i : Nat) d => PyData.tuple [.int ((i + n : Nat) : Int), d]
  | _, [] => rfl
  | n, d :: r => by
    rw [enumF, enumF_eq (n + 1) r, List.mapIdx_cons]
    congr 1
    · simp
    · congr 1
      funext i e
      congr 3
      omega
theorem enumD_eq (l : List D) : enumD l = enumF 0 l := by rw [enumF_eq]; rfl
end SC

set_option Elab.async false
set_option linter.all false
set_option maxRecDepth 100000
namespace SC
open PySem L2 VL

def MI (ps : List (D × D)) (l : List It) : Prop := ∀ n (j : Nat), l[j]? = some (.mark n) → dget ps (.str n) = some (.int (j : Int))
theorem ok_mark : ∀ {l : List It} {ms : List Str} {i : Nat} {n : Str} {c : Int}, ok ms l → l[i]? = some (.rep n c) → n ∈ ms ∨ ∃ j, j < i ∧ l[j]? = some (.mark n)
  | [], _, _, _, _, _, e => by simp at e
  | it :: l, ms, 0, n, c, h, e => by
    have : it = .rep n c := by simpa using e
    subst this
    exact .inl h.2.1
  | it :: l, ms, i + 1, n, c, h, e => by
    have e : l[i]? = some (.rep n c) := by simpa using e
    cases it with
    | bar m =>
      rcases ok_mark h.2 e with z | ⟨j, h1, h2⟩
      · exact .inl z
      · exact .inr ⟨j + 1, by omega, by simpa using h2⟩
    | rep m d =>
      rcases ok_mark h.2.2.2 e with z | ⟨j, h1, h2⟩
      · exact .inl z
      · exact .inr ⟨j + 1, by omega, by simpa using h2⟩
    | mark m =>
      rcases ok_mark h.2.2 e with z | ⟨j, h1, h2⟩
      · rcases List.mem_cons.mp z with rfl | z
        · exact .inr ⟨0, by omega, rfl⟩
        · exact .inl z
      · exact .inr ⟨j + 1, by omega, by simpa using h2⟩
def SS (ps : List (D × D)) (l : List It) : Prop := ∀ (i : Nat) n c, l[i]? = some (.rep n c) → ∃ j : Nat, j < i ∧ l[j]? = some (.mark n) ∧ dget ps (.int (i : Int)) = some (.int ((j : Int) + 1))
end SC

set_option Elab.async false
set_option linter.all false
set_option maxRecDepth 100000
namespace SC
open PySem L2 VL

abbrev Sta := (Str → Int) × Int
def stp (p : Sta) : It → Sta
  | .bar _ => (p.1, p.2 + 1)
  | .mark n => (fun m => if m = n then p.2 else p.1 m, p.2)
  | .rep n c => (p.1, p.2 + c * (p.2 - p.1 n))
def st (p : Sta) (l : List It) : Sta := l.foldl stp p
def p0 : Sta := (fun _ => 0, 0)
def run (p : Sta) : List It → List Int
  | [] => [p.2]
  | it :: r => p.2 :: run (stp p it) r
theorem run_length : ∀ (l : List It) (p : Sta), (run p l).length = l.length + 1
  | [], _ => rfl
  | it :: r, p => by rw [run, List.length_cons, run_length r, List.length_cons]
theorem run_get : ∀ (l : List It) (p : Sta) (i : Nat), i ≤ l.length → (run p l)[i]? = some (st p (l.take i)).2
  | [], p, i, h => by
    have : i = 0 := by simpa using h
    subst this; rfl
  | it :: r, p, 0, _ => rfl
  | it :: r, p, i + 1, h => by
    rw [run, List.getElem?_cons_succ, run_get r (stp p it) i (by simpa using h)]
    rfl
theorem st_take {l : List It} {p : Sta} {n : Nat} {it : It} (h : l[n]? = some it) : st p (l.take (n + 1)) = stp (st p (l.take n)) it := by
  have hn : n < l.length := (List.getElem?_eq_some_iff.mp h).1
  have : l.take (n + 1) = l.take n ++ [it] := by
    rw [List.take_succ, h]; rfl
  unfold st
  rw [this, List.foldl_append]
  rfl
def Bd (p : Sta) (n : Nat) : Prop := 0 ≤ p.2 ∧ p.2 < ((2 ^ (32 * n) : Nat) : Int) ∧ ∀ m, 0 ≤ p.1 m ∧ p.1 m ≤ p.2
theorem Bd.stp {p : Sta} {n : Nat} (h : Bd p n) {it : It} (hc : ∀ m c, it = .rep m c → 1 ≤ c ∧ c < 2 ^ 31) : Bd (stp p it) (n + 1) := by
  obtain ⟨h1, h2, h3⟩ := h
  have e : ((2 ^ (32 * (n + 1)) : Nat) : Int) = 4294967296 * ((2 ^ (32 * n) : Nat) : Int) := by
    have : 2 ^ (32 * (n + 1)) = 2 ^ (32 * n) * 4294967296 := by
      rw [show 32 * (n + 1) = 32 * n + 32 by omega, Nat.pow_add]
    rw [this, Int.natCast_mul]; omega
  cases it with
  | bar m =>
    refine ⟨?_, ?_, fun m => ?_⟩
    · show 0 ≤ p.2 + 1; omega
    · show p.2 + 1 < _; rw [e]; omega
    · have := h3 m; show 0 ≤ p.1 m ∧ p.1 m ≤ p.2 + 1; omega
  | mark m =>
    refine ⟨h1, by show p.2 < _; rw [e]; omega, fun x => ?_⟩
    show 0 ≤ (if x = m then p.2 else p.1 x) ∧ (if x = m then p.2 else p.1 x) ≤ p.2
    have := h3 x
    split <;> omega
  | rep m c =>
    obtain ⟨c1, c2⟩ := hc m c rfl
    have := h3 m
    have l1 : 0 ≤ c * (p.2 - p.1 m) := Int.mul_nonneg (by omega) (by omega)
    have l2 : c * (p.2 - p.1 m) ≤ 2147483648 * p.2 := by
      calc c * (p.2 - p.1 m) ≤ 2147483648 * (p.2 - p.1 m) := Int.mul_le_mul_of_nonneg_right (by omega) (by omega)
        _ ≤ 2147483648 * p.2 := by omega
    refine ⟨?_, ?_, fun x => ?_⟩
    · show 0 ≤ p.2 + c * (p.2 - p.1 m); omega
    · show p.2 + c * (p.2 - p.1 m) < _; rw [e]; omega
    · have := h3 x
      show 0 ≤ p.1 x ∧ p.1 x ≤ p.2 + c * (p.2 - p.1 m); omega
theorem ok_count : ∀ {l : List It} {ms : List Str} {i : Nat} {n : Str} {c : Int}, ok ms l → l[i]? = some (.rep n c) → 1 ≤ c ∧ c < 2 ^ 31
  | [], _, _, _, _, _, e => by simp at e
  | it :: l, ms, 0, n, c, h, e => by
    have : it = .rep n c := by simpa using e
    subst this
    exact h.2.2.1
  | it :: l, ms, i + 1, n, c, h, e => by
    have e : l[i]? = some (.rep n c) := by simpa using e
    cases it with
    | bar m => exact ok_count h.2 e
    | rep m d => exact ok_count h.2.2.2 e
    | mark m => exact ok_count h.2.2 e
theorem ix_lastE {l : List D} {d : D} {k : R → Prop} (h : l.getLast? = some d) : oIx (.list l) (.int (-1)) k = k (.sh d) := by
  rw [List.getLast?_eq_getElem?] at h
  have hn : l.length - 1 < l.length := (List.getElem?_eq_some_iff.mp h).1
  rw [ev_ixl]
  have : atI l (-1) = some d := by
    unfold atI
    have : ixN l.length (-1) = some (l.length - 1) := by
      unfold ixN
      rw [if_neg (by omega), if_pos (by omega)]
      congr 1
      omega
    rw [this]; exact h
  rw [this]
theorem ix_lnE {l : List D} {n : Nat} {d : D} {k : R → Prop} (h : l[n]? = some d) : oIx (.list l) (.int (n : Int)) k = k (.sh d) := by
  have hn : n < l.length := (List.getElem?_eq_some_iff.mp h).1
  rw [ev_ixl]
  have : atI l (n : Int) = some d := by
    unfold atI
    have : ixN l.length (n : Int) = some n := by
      unfold ixN
      simp
      omega
    rw [this]; exact h
  rw [this]
theorem mul_ok {i j : Int} {b : Nat} (hi : i.natAbs < 2 ^ 32) (hj : j.natAbs < 2 ^ b) (h0 : 0 < b) (hb : b ≤ 900000) : CMulW i j := wide_mul (a := 32) (b := b) hi hj (by decide) h0 (by omega)
theorem take_run {L : List It} {p : Sta} {n : Nat} (h : n ≤ L.length) : ((run p L).take (n + 1)).getLast? = some (st p (L.take n)).2 := by
  have hl := run_length L p
  rw [List.getLast?_eq_getElem?, List.length_take, Nat.min_eq_left (by omega), List.getElem?_take_of_lt (by omega)]
  exact run_get L p n h
theorem take_run_succ {L : List It} {p : Sta} {n : Nat} {it : It} (h : L[n]? = some it) : (run p L).take (n + 1 + 1) = (run p L).take (n + 1) ++ [(stp (st p (L.take n)) it).2] := by
  have hn : n < L.length := (List.getElem?_eq_some_iff.mp h).1
  rw [List.take_succ, run_get L p (n + 1) (by omega), st_take h]
  rfl
end SC

set_option Elab.async false
set_option linter.all false
set_option maxRecDepth 100000
namespace SC
open PySem L2 VL

def total (l : List It) : Int := (st p0 l).2
theorem run_last (l : List It) : ((run p0 l).map PyData.int).getLast? = some (.int (total l)) := by
  have := take_run (L := l) (p := p0) (n := l.length) (Nat.le_refl _)
  rw [List.take_of_length_le (by rw [run_length]; omega), List.take_length] at this
  rw [List.getLast?_map, this]; rfl
theorem sc_length (l : List It) : (sc l).length = l.length := by simp [sc]
end SC

set_option Elab.async false
set_option linter.all false
set_option maxRecDepth 100000
namespace SC
open PySem L2 VL

def StrOk (n : Nat) (d : D) : Prop := ∃ a b c : Int, d = .list [.int a, .int b, .int c] ∧ 0 ≤ a ∧ 0 ≤ b ∧ b < 2 ^ 200 ∧ 0 ≤ c ∧ c ≤ (n : Int)
theorem StrOk.mono {n m : Nat} {d : D} (h : StrOk n d) (l : n ≤ m) : StrOk m d := by
  obtain ⟨a, b, c, e, h1, h2, h3, h4, h5⟩ := h
  exact ⟨a, b, c, e, h1, h2, h3, h4, by omega⟩
theorem bits_le (x : Int) : Builtin.Int.intBits x ≤ x.natAbs.log2 + 1 := by
  unfold Builtin.Int.intBits
  split <;> omega
theorem pow_ok {x : Int} {b : Nat} (h0 : 0 < b) (hb : b ≤ 1000000) (h : x.natAbs < 2 ^ b) : CPowW x 3 := by
  refine ⟨by decide, ?_⟩
  have h1 := bits_le x
  have h2 := PySem.Flt.log2_lt_of h0 h
  have : (2 : Int) ^ 27 = 134217728 := by decide
  rw [this]
  omega
theorem pow10 (n : Int) (h : 0 ≤ n) (h2 : n ≤ 1000) : CPowW 10 n := by
  refine ⟨h, ?_⟩
  have h1 := bits_le 10
  have e : (10 : Int).natAbs.log2 = 3 := by decide
  rw [e] at h1
  have : (2 : Int) ^ 27 = 134217728 := by decide
  rw [this]
  have : (Builtin.Int.intBits 10 : Int) * n ≤ 4 * n := Int.mul_le_mul_of_nonneg_right (by omega) h
  omega
theorem ix3_0 : ixN 3 0 = some 0 := by decide
theorem ix3_2 : ixN 3 2 = some 2 := by decide
theorem div_ok {i j : Int} (h : 0 < j) (h2 : j < 2 ^ 64) : CDivW i j := wide_div (b := 64) h (by omega) (by decide) (by decide)
theorem two {r : Int} (h0 : 0 ≤ r) (h : r < 2) : r = 0 ∨ r = 1 := by omega
end SC

set_option Elab.async false
set_option linter.all false
set_option maxRecDepth 100000
namespace SC
open PySem L2 VL

def mk : List Str → List It → List Str
  | ms, [] => ms
  | ms, .bar _ :: r => mk ms r
  | ms, .mark n :: r => mk (n :: ms) r
  | ms, .rep _ _ :: r => mk ms r
theorem mk_app : ∀ (a b : List It) (ms : List Str), mk ms (a ++ b) = mk (mk ms a) b
  | [], b, ms => rfl
  | it :: a, b, ms => by cases it <;> exact mk_app a b _
theorem ok_app : ∀ (a b : List It) (ms : List Str), ok ms (a ++ b) ↔ ok ms a ∧ ok (mk ms a) b
  | [], b, ms => by simp [ok, mk]
  | it :: a, b, ms => by
    cases it <;> simp [ok, mk, ok_app a b, and_assoc]
theorem name_strOk {s : Str} (h : nameB s = true) : PyData.strOk s = true := by
  unfold nameB at h
  rw [Bool.and_eq_true] at h
  have h := h.2
  unfold PyData.strOk
  rw [← Array.all_toList]
  refine List.all_eq_true.mpr fun c hc => ?_
  have hl : letter c = true := List.all_eq_true.mp h c hc
  have hm : c ∈ letters.cps.toList := of_decide_eq_true hl
  have ha : (letters.cps.toList.all fun c => decide (c < 0x110000)) = true := by decide +kernel
  exact List.all_eq_true.mp ha c hm
theorem canAll_strs : ∀ ys : List Str, (∀ n ∈ ys, PyData.strOk n = true) → PyData.canLayAll0 (ys.map .str) = true
  | [], _ => by simp [PyData.canLayAll0]
  | y :: ys, h => by
    have ih := canAll_strs ys fun n hn => h n (List.mem_cons_of_mem _ hn)
    simp [PyData.canLayAll0, PyData.canLay0, h y List.mem_cons_self, ih]
theorem dep_strs : ∀ ys : List Str, PyData.depthAll (ys.map .str) = 0
  | [] => by simp [PyData.depthAll]
  | y :: ys => by simp [PyData.depthAll, PyData.depth, dep_strs ys]
theorem shaped_strs {ys : List Str} (h : ∀ n ∈ ys, PyData.strOk n = true) : SeqAt.shaped (.list (ys.map .str)) = true := by
  simp [SeqAt.shaped, PyData.canLay0, PyData.depth, canAll_strs ys h, dep_strs ys]
structure ScI (i : Nat) (l : List It) (ps : List (D × D)) (len : Int) : Prop where
  ok : ok [] l
  ll : l.length ≤ i
  mks : Marks ps (mk [] l)
  ks : ∃ ks : List Str, ps.map (·.1) = ks.map .str ∧ ks.length ≤ i ∧ ∀ n ∈ ks, n ∈ mk [] l ∧ nameB n = true
  vals : ∀ x v, dget ps (.str x) = some v → ∃ j : Int, v = .int j ∧ 0 ≤ j ∧ j ≤ len
  l0 : 0 ≤ len
  l1 : len < ((2 ^ (32 * i) : Nat) : Int)
def c_law_score : WS := wIfS (wAnd (wT (wOp oEq (wVar 9) (wC (.int 3)))) (wT (wOp (oIn true) (wVar 10) (wVar 4)))) (wSeq (wDrop (wMut 3 fAppend (wCons (wTup (wCons (wC (.str "mark")) (wCons (wVar 10) (wNil)))) wNil))) (wDPut 4 (wVar 10) (wVar 5))) (wIfS (wAnd (wT (wOp (oIB fun i j => decide (j < i)) (wVar 9) (wC (.int 3)))) (wAnd (wT (wOp oNe (wVar 13) (wC (.str "")))) (wAnd (wT (wOp (oIB fun i j => decide (j < i)) (wVar 11) (wC (.int 0)))) (wOr (wT (wOp (oIB fun i j => decide (j < i)) (wVar 14) (wC (.int 0)))) (wOr (wT (wOp oEq (wVar 2) (wC (.int 0)))) (wT (wOp (oIB fun i j => decide (i < j)) (wVar 6) (wC (.int 4))))))))) (wSeq (wDrop (wMut 3 fAppend (wCons (wTup (wCons (wC (.str "repeat")) (wCons (wVar 13) (wCons (wIf (wOr (wT (wOp (oIB fun i j => decide (j < i)) (wVar 14) (wC (.int 0)))) (wT (wOp oEq (wVar 2) (wC (.int 0))))) (wVar 11) (wC (.int 1))) (wNil))))) wNil))) (wSet 5 (wOp oAdd (wVar 5) (wOp oMul (wVar 11) (wVar 14))))) (wIfS (wOr (wT (wOp oEq (wVar 2) (wC (.int 0)))) (wT (wOp (oIB fun i j => decide (i < j)) (wVar 5) (wVar 2)))) (wSeq (wDrop (wMut 3 fAppend (wCons (wTup (wCons (wC (.str "bar")) (wCons (wVar 10) (wNil)))) wNil))) (wSet 5 (wOp oAdd (wVar 5) (wC (.int 1))))) (wNext)))
end SC

set_option Elab.async false
set_option linter.all false
set_option maxRecDepth 100000
namespace VL
open PySem L2

section
variable {P : Program} {w : World} {K : Fg} {H : Hp} {h : Heap}
theorem tup_obj {a : Addr} {items : Array Value} (p : PyProof.Rows.IsTup h a items) : ∃ o n, h.get? a = some o ∧ o.cls = .type "tuple" ∧ o.data = .seq items n := by
  obtain ⟨o, h1, h2, n, h3⟩ := p
  exact ⟨o, n, h1, h2, h3⟩
mutual
theorem Rep.reads (I : HOk P w H h) : ∀ {v : V} {d : D} {u : Value}, Rep K H v d → d.canLay0 = true → RelV v u → ∃ as, Reads h u d as
  | _, _, u, .non, _, r => by cases (show u = .none from r); exact ⟨_, .none⟩
  | _, _, u, .bl b, _, r => by cases (show u = .bool b from r); exact ⟨_, .bool b⟩
  | _, _, u, .int i, _, r => by obtain ⟨t, rfl⟩ := r; exact ⟨_, .int i t⟩
  | _, _, u, .str x, _, r => by obtain ⟨t, rfl⟩ := r; exact ⟨_, .str x t⟩
  | _, _, u, .lst hl rs, e, r => by
    cases (show u = .ref _ from r)
    obtain ⟨_, its, n, rv, ho⟩ := I _ _ hl
    obtain ⟨as, ra⟩ := Reps.reads I rs (by simpa [PyData.canLay0] using e) rv
    exact ⟨_, .list ho rfl rfl (by simpa using ra)⟩
  | _, _, u, .tup hl rs, e, r => by
    cases (show u = .ref _ from r)
    obtain ⟨_, its, rv, ho⟩ := I _ _ hl
    obtain ⟨as, ra⟩ := Reps.reads I rs (by simpa [PyData.canLay0] using e) rv
    obtain ⟨o, n, h1, h2, h3⟩ := tup_obj ho
    exact ⟨_, .tuple h1 h2 h3 (by simpa using ra)⟩
  | _, _, u, .dct hl rs, e, r => by simp [PyData.canLay0] at e
theorem Reps.reads (I : HOk P w H h) : ∀ {vs : List V} {ds : List D} {us : List Value}, Reps K H vs ds → PyData.canLayAll0 ds = true → Vals vs us → ∃ as, ReadsAll h us ds as
  | _, _, _, .nil, _, .nil => ⟨_, .nil⟩
  | _, _, _, .cons h1 r1, e, .cons h2 r2 => by
    have e' := (show _ ∧ _ by simpa [PyData.canLayAll0] using e)
    obtain ⟨as, ra⟩ := Rep.reads I h1 e'.1 h2
    obtain ⟨bs, rb⟩ := Reps.reads I r1 e'.2 r2
    exact ⟨_, .cons ra rb⟩
end
end
def rRepr (K : Fg) : List V → Hp → VK → Prop := fun xs H Q => ∃ (a : Addr) (d : D), xs = [.ref a] ∧ Rep K H (.ref a) d ∧ SeqAt.shaped d = true ∧ d.showable = true ∧ d.shown.length ≤ sizeLine ∧ Q (.str d.shown) H
theorem call_repr {X : Cx} (hgd : X.A.guards = some []) (hu : X.A.units + 65 < cLine) : CallR X (.builtin "repr") (rRepr X.K) := by
  intro pins s σ H xs us Q I r h
  obtain ⟨a, d, rfl, hr, hs, hsh, hsz, q⟩ := h
  obtain ⟨u, rfl, ru⟩ := vals1 r
  cases (show u = .ref a from ru)
  obtain ⟨as, rd⟩ := hr.reads I.hok (SeqAt.canLay_of_shaped hs) rfl
  have hd := SeqAt.depth_of_shaped hs
  exact repr_of_reads' rd hsh (PyData.noDict_hsm (PyData.hasDict_of_canLay d (SeqAt.canLay_of_shaped hs))) hgd (by omega) (fun _ _ e => e) (fun h' u tk k => ⟨.str d.shown, H, I.kept k, ⟨_, rfl⟩, q⟩) hsz
def oRepr : Op1 := fun d k => SeqAt.shaped d = true ∧ d.showable = true ∧ d.shown.length ≤ sizeLine ∧ (match d with
  | .list _ => k (.sh (.str d.shown))
  | .tuple _ => k (.sh (.str d.shown))
  | _ => False)
theorem sem_repr {G : Gb} : SemN G (rRepr G.K) (o1 oRepr) := by
  refine semN_1 ?_
  intro C Hi σ H Γ x a k Q c ha h q
  obtain ⟨h1, h2, h3, h4⟩ := h
  have hr := ha.rep c.imm
  cases a with
  | list l =>
    obtain ⟨p, xs, rfl, _, _⟩ := ha.list c.imm
    exact ⟨p, _, rfl, hr, h1, h2, h3, q _ _ H Hi (Ext.refl _) (out_str c _) h4⟩
  | tuple l =>
    obtain ⟨p, xs, rfl, _, _⟩ := ha.tuple c.imm
    exact ⟨p, _, rfl, hr, h1, h2, h3, q _ _ H Hi (Ext.refl _) (out_str c _) h4⟩
  | _ => exact h4.elim
theorem b_repr {X : Cx} {G : Gb} (hK : X.K = G.K) (hgd : X.A.guards = some []) (hu : X.A.units + 65 < cLine) : B1 X G "repr" (rRepr G.K) (o1 oRepr) := ⟨by rw [← hK]; exact call_repr hgd hu, sem_repr⟩
section
variable {P : Program} {w : World} {K : Fg} {mg : Str → Option Value}
open PyProof.Rows in
theorem law_run {base : Heap} {x qual y : Str} {params : Arguments} {body : List Stmt} {scope : Scope} {dvs : List V} {kws : List (Str × V)} {f : Addr} {fd : FuncData} {N : List Str} {k : Nat} {ca : Str → Addr} {ws : WS}
    (F : FunD K x qual params body scope dvs kws f fd) (S : FnScope N [y] scope) (hV : FnV fsLaw N.length ws)
    (hb : ∀ (cdv : Value) (s : Shared) (H : Hp) (E : XK), Room k (callerA.deeper (envOfC qual scope s.heap.objs.size f cdv)) →
      ∃ t, PSs (cxOf (L2N.CX P w) P w K mg base N qual scope f cdv callerA [] s H E) body t ∧ SimS ⟨K, OpS K, ca⟩ (fun c d _ H => E c d H) t ws)
    (s : Shared) (H : Hp) (args : Args) (us : List Value) (vs : List V) (Q : VK) (E : XK) (hr : Room (k + 1) callerA) (e0 : Env0 P w K mg base callerA [] s H) (hbd : BindsTo s fd args ([y].zip us)) (r : Vals vs us) (hsp : lift ⟨K, OpS K, ca⟩ fsLaw vs H Q E) :
    codeAny (model P w) callerA (.call (.ref f) args) (CR (L2N.CX P w) [] P w H s Q E) s := by
  obtain ⟨oc, od, dV, kV, doc, pm, an, cdv, ct, osl, rfl, lk, hcd, _, _⟩ := F.ex
  have hl : vs.length = [y].length := lift_len fsLaw_len hsp
  have old : ∀ b o, base.get? b = some o → s.heap.get? b = some o := fun b o e => (e0.bs b o e).1
  have hkind : ∀ z ∈ [y].zip us, scope.names.lookup z.1 = some .local ∨ (scope.names.lookup z.1 = some .cell ∧ ((cellsFrom (s.heap.objs.size + 1) scope.names []).lookup z.1).isSome = true) := by
    rintro ⟨n, v⟩ hz
    rcases S.par n (List.of_mem_zip hz).1 with q | q
    · exact .inl q
    · exact .inr ⟨q, PySem.W.cellsFrom_some _ _ _ (.inl q)⟩
  have KX := e0.mod.kin.keeps old
  refine codeAny_call_function hr.depth (KX _ _ lk) rfl S.co S.gen rfl (PySem.W.codeRec_of KX hcd) (hbd _ _ _ _ ?_)
  refine wpAny_newFunctionEnv_cells S.kind hkind fun env he s1 ic => ?_
  subst he
  refine ⟨(e0.mod.nolimit.keeps old).keeps ic.toInCall.keep, codeAny_func ?_⟩
  obtain ⟨t, ht, hs⟩ := hb cdv s H E (hr.deeper _)
  have I := inv_start (CX := L2N.CX P w) (E := E) S hr.hd e0 hl r ic
  refine wpAny_mono (ht.run [] s1 (start N vs) H _ I (vbody hV hs hsp)) (fun fl s' hs => ?_) fun e s' hs => hs
  cases fl with
  | ret u =>
    obtain ⟨v, σ', H', J, rv, q⟩ := hs
    exact ⟨v, H', J.os, J.bare, J.base, J.hok, rv, q⟩
  | next =>
    obtain ⟨σ', H', J, q⟩ := hs
    exact ⟨.non, H', J.os, J.bare, J.base, J.hok, rfl, q⟩
  | brk =>
    obtain ⟨_, _, _, q⟩ := hs
    exact q.elim
  | cont =>
    obtain ⟨_, _, _, q⟩ := hs
    exact q.elim
end
end VL

set_option Elab.async false
set_option linter.all false
set_option maxRecDepth 100000
set_option maxHeartbeats 2000000
namespace VL
open PySem L2 PyProof.Rows

def LawRuns (P : Program) (w : World) (K : Fg) (mg : Str → Option Value) (base : Heap) (k : Nat) (f : Addr) (fd : FuncData) (y : Str) : Prop :=
  ∀ (s : Shared) (H : Hp) (args : Args) (us : List Value) (vs : List V) (Q : VK) (E : XK), Room k callerA → Env0 P w K mg base callerA [] s H → BindsTo s fd args ([y].zip us) → Vals vs us → lift ⟨K, OpS K, fun _ => 0⟩ fsLaw vs H Q E →
    codeAny (model P w) callerA (.call (.ref f) args) (CR (L2N.CX P w) [] P w H s Q E) s
section
variable {P : Program} {w : World} {K : Fg} {mg mb : Str → Option Value}
theorem law_ends {k : Nat} {fa a : Addr} {fd : FuncData} {y : Str} {s₁ : Shared} {vs : List Value} {ns : List Int}
    (KX : K.In s₁.heap) (hns : s₁.heap.Ns mainGlobals mg) (hb : s₁.heap.Ns builtinsNs mb) (hbb : ∀ x : Str, x ≠ "__name__" → mb x = bootBuiltins x) (hlim : s₁.heap.NoLimit) (hg : s₁.gens = #[])
    (ha : s₁.heap.get? a = some { cls := .type "list", data := .seq vs.toArray }) (hi : IntsAre vs ns) (hl : ns.length ≤ 63) (hr : Room k callerA)
    (F : ∀ base : Heap, K.In base → base.Ns mainGlobals mg → LawRuns P w K mg base k fa fd y) (hbind : ∀ (s : Shared) (u : Value), BindsTo s fd ⟨[u], []⟩ [(y, u)]) :
    codeAny (model P w) callerA (.call (.ref fa) ⟨[.ref a], []⟩) (fun r s' => r = .ok (.ret (.bool true)) ∧ OldK s₁.heap s'.heap ∧ s'.os = s₁.os ∧ AllBare s'.gens) s₁ := by
  have hlz : ns.length ≤ sizeLine := by rw [sizeLine_eq]; omega
  -- one road for both abstract heaps: H tracks the script, frozen, or nothing
  have road : ∀ H : Hp, (∀ b u, H b = some u → b = a ∧ K.lookup a = none ∧ u = .frz { cls := .type "list", data := .seq vs.toArray } (.lst (ns.map V.int))) → SqL K H a (ns.map V.int) →
      codeAny (model P w) callerA (.call (.ref fa) ⟨[.ref a], []⟩) (fun r s' => r = .ok (.ret (.bool true)) ∧ OldK s₁.heap s'.heap ∧ s'.os = s₁.os ∧ AllBare s'.gens) s₁ := by
    intro H hH hS
    have free : ∀ {b : Addr}, b ≠ a → H b = none := fun {b} hb => by
      cases q : H b with
      | none => rfl
      | some u => exact absurd (hH b u q).1 hb
    have hok : HOk P w H s₁.heap := fun b u q => by
      obtain ⟨rfl, _, rfl⟩ := hH b u q
      exact ⟨ha, by rw [List.length_map]; exact hlz, vs, _, vals_ints hi, ha⟩
    have nsK : ∀ {b : Addr} {m : Str → Option Value}, s₁.heap.Ns b m → (hidT s₁.heap H).Ns b m := fun {b m} ⟨o, es, ep, e, d, r⟩ =>
      ⟨o, es, ep, hidT_get e (free fun z => by
        rw [z, ha] at e
        cases e
        have d' : Data.seq vs.toArray _ = Data.dict es ep := d
        cases d'), d, r⟩
    have hKb : K.In (hidT s₁.heap H) := fun b o e => hidT_get (KX b o e) (by
      cases q : H b with
      | none => rfl
      | some u =>
        obtain ⟨rfl, hk, _⟩ := hH b u q
        rw [hk] at e; cases e)
    obtain ⟨mc, l1, l2⟩ := hlim
    have e0 : Env0 P w K mg (hidT s₁.heap H) callerA [] s₁ H :=
      ⟨rfl, ⟨hKb, nsK hns, ⟨mb, nsK hb, hbb⟩, ⟨mc, nsK l1, l2⟩⟩, fun b o e => of_hidT e, Nat.le_of_eq (hidT_size _ _), trivial, fun b hb => absurd (show b ∈ ([] : List Addr) from hb) (by simp), hok, .of_eq hg⟩
    refine codeAny_mono (F _ hKb (nsK hns) s₁ H ⟨[.ref a], []⟩ [.ref a] [.ref a] _ _ hr e0 (hbind s₁ (.ref a)) (.cons rfl .nil) (law_sp hl hS)) fun r s' h => ?_
    cases r with
    | error e =>
      obtain ⟨_, _, _, _, _, _, _, _, _, _, _, _, z⟩ := h
      exact z.elim
    | ok fl =>
      cases fl with
      | next => exact False.elim h
      | brk => exact False.elim h
      | cont => exact False.elim h
      | ret u =>
        obtain ⟨v, H', os, bare, un, hok', rv, q⟩ := h
        cases (show v = .bl true from q)
        cases (show u = Value.bool true from rv)
        refine ⟨rfl, OldK.of_keep fun b o e => ?_, os, bare⟩
        cases qb : H b with
        | none => exact un.keep b o e qb (by intro z; exact absurd (show b ∈ ([] : List Addr) from z) (by simp)) (by simp)
        | some u =>
          obtain ⟨rfl, _, rfl⟩ := hH b u qb
          obtain ⟨e1, _⟩ := hok b _ qb
          obtain ⟨e2, _⟩ := hok' b _ (un.frzs b _ _ qb)
          rw [e1] at e; cases e
          exact e2
  cases hk : K.lookup a with
  | some o =>
    have e := KX a o hk
    rw [ha] at e
    cases e
    exact road (fun _ => none) (fun b u z => by cases (show (none : Option HO) = some u from z)) (.inr ⟨_, vs.toArray, _, hk, rfl, rfl, rfl, by rw [List.size_toArray, hi.length]; exact hlz, by simpa using vals_ints hi⟩)
  | none =>
    refine road (fun b => if b = a then some (.frz { cls := .type "list", data := .seq vs.toArray } (.lst (ns.map V.int))) else none) (fun b u z => ?_) (.inl (.inr ⟨_, if_pos rfl⟩))
    by_cases hb : b = a
    · rw [if_pos hb] at z
      exact ⟨hb, hk, (Option.some.inj z).symm⟩
    · rw [if_neg hb] at z; cases z
end
theorem walk_law {l : PySem.W.OpenLaw} {k : Nat} {q : Program} {loose : List Str} {XP : (Str → Option Value) → Heap → Prop} {YP : World → Heap → Prop} {d : DefRec} {y : Str}
    (hn : l.most = some 63) (hdf : d.params.defaults = []) (hr : Room k callerA)
    (F : ∀ (w : World) (mg : Str → Option Value) (fa : Addr) (h : Heap), YP w h → h.Ns mainGlobals mg → mg d.name = some (.ref fa) →
      ∃ (K : Fg) (fd : FuncData), K.In h ∧ (∀ (s : Shared) (u : Value), BindsTo s fd ⟨[u], []⟩ [(y, u)]) ∧ ∀ base : Heap, K.In base → base.Ns mainGlobals mg → LawRuns l.prog w K mg base k fa fd y) :
    PySem.W.WalkO q loose XP YP l.row.toRowW d [] (fun f vs => PySem.call f vs) := by
  refine Att.attach_call hn hdf fun w s₀ s₁ mg mb fa o pm cd doc a vs ns G Y ho hd hcd hmg hobj hints hlen hg => ?_
  obtain ⟨K, fd, KX, hb, hF⟩ := F w mg fa _ Y G.T.g hmg
  exact law_ends KX G.T.g G.T.b G.T.builtins G.T.nolimit hg hobj hints hlen hr hF hb
end VL

set_option Elab.async false
set_option linter.all false
set_option maxRecDepth 100000
namespace VL
open PySem L2

def reord {α : Type} (is : List Nat) (xs : List α) : List α := is.filterMap (xs[·]?)
theorem Vals.reord {vs : List V} {us : List Value} (r : Vals vs us) : ∀ is : List Nat, Vals (reord is vs) (VL.reord is us)
  | [] => .nil
  | i :: is => by
    have ih := Vals.reord r is
    unfold VL.reord at ih ⊢
    rw [List.filterMap_cons, List.filterMap_cons]
    cases e : vs[i]? with
    | none =>
      have : us[i]? = none := by
        rw [List.getElem?_eq_none_iff] at e ⊢
        rw [← r.length]; exact e
      rw [this]; exact ih
    | some v =>
      obtain ⟨u, hu, rv⟩ := r.get e
      rw [hu]
      exact .cons rv ih
theorem Reps.reord {K : Fg} {H : Hp} {vs : List V} {ds : List D} (r : Reps K H vs ds) : ∀ is : List Nat, Reps K H (reord is vs) (VL.reord is ds)
  | [] => .nil
  | i :: is => by
    have ih := Reps.reord r is
    unfold VL.reord at ih ⊢
    rw [List.filterMap_cons, List.filterMap_cons]
    cases e : vs[i]? with
    | none =>
      have : ds[i]? = none := by
        rw [List.getElem?_eq_none_iff] at e ⊢
        rw [← r.length]; exact e
      rw [this]; exact ih
    | some v =>
      obtain ⟨d, hd, rv⟩ := r.get' e
      rw [hd]
      exact .cons rv ih
def tCallKw (sp : Sp) (is : List Nat) (m : Nat) (E : St → XK) (t : TA) : TE := fun σ H Q => t σ H fun vs H1 => vs.length = m ∧ sp (reord is vs) H1 Q (E σ)
def wCallKw (fs : FS) (is : List Nat) (m : Nat) (wa : WA) : WE := fun Γ Q X => wa Γ (fun rs Γ1 => frAll rs Γ1 fun ds Γ2 => ds.length = m ∧ fs none (reord is ds) (fun r _ => Q r Γ2) fun x _ => X x Γ2) X
def GdK (P : Program) (wd : World) (G : Gb) (mg : Str → Option Value) (base : Heap) (k : Nat) (x : Str) (fs : FS) (ps ks : List Str) (is : List Nat) : Prop :=
  ∃ (f : Addr) (fd : FuncData), mg x = some (.ref f) ∧ PySem.W.keepIn G.K (.ref f) = true ∧ FnOk P wd G.K mg base (L2N.CX P wd) k f fd ps (lift G fs) ∧ ∀ (s : Shared) (ws : List Value), ws.length = ks.length → BindsTo s fd ⟨[], ks.zip ws⟩ (ps.zip (reord is ws))
theorem GdK.mono {P : Program} {wd : World} {G : Gb} {mg : Str → Option Value} {base : Heap} {k k' : Nat} {x : Str} {fs : FS} {ps ks : List Str} {is : List Nat} (h : GdK P wd G mg base k x fs ps ks is) (l : k ≤ k') : GdK P wd G mg base k' x fs ps ks is :=
  let ⟨f, fd, h1, h2, h3, h4⟩ := h
  ⟨f, fd, h1, h2, h3.mono l, h4⟩
structure DK (X : Cx) (G : Gb) (W : WX) (kws : List Keyword) (t : TA) (w : WA) : Prop where
  pe : PK X kws t
  sim : SimA G W t w
section
variable {X : Cx} {G : Gb} {W : WX} {e : Expr} {te : TE} {we : WE} {pos p kpos : Pos} {t : TA} {w : WA} {kws : List Keyword} {nm : Option Str} {k : Nat} {x : Str} {fs : FS} {ps ks : List Str} {is : List Nat}
theorem dk_nil : DK X G W [] tNil wNil := ⟨pk_nil, sim_nil⟩
theorem dk_cons (he : DE X G W e te we) (hr : DK X G W kws t w) : DK X G W (⟨nm, e, kpos⟩ :: kws) (tCons te t) (wCons we w) := ⟨pk_cons he.pe hr.pe, sim_cons he.sim hr.sim⟩
theorem sim_callKw {m : Nat} (ha : SimA G W t w) : SimE G W (tCallKw (lift G fs) is m (L2.WE W) t) (wCallKw fs is m w) := by
  intro C Hi σ H Γ Q Qd Xd c hw hQ hX
  refine ha C Hi σ H Γ _ _ Xd c hw (fun vs rs H1 Hi1 Γ1 e1 c1 h1 q1 => ?_) hX
  obtain ⟨ds, Hi2, Γ2, e2, c2, rp, hl, q2⟩ := h1.share (Ext.refl _) c1 q1
  have f2 := e1.trans e2
  refine ⟨by rw [rp.length]; exact hl, none, reord is ds, Hi2, _, _, [], reord is vs, [], rfl, ⟨rfl, rfl⟩, rp.reord is, c2.imm, fun a ha => (nomatch ha), q2, fun v r H' Hi' io' fp' L ra q => ?_, fun x cl d H' Hi' io' fp' L hx q => ?_⟩
  · have c3 := c2.grow (fun a o h => L.keep a o h (fun z => nomatch z)) L.e L.imm L.ov
    cases r with
    | sh d => exact hQ v (.sh d) H' Hi' Γ2 (f2.trans L.e) ⟨c3, ra⟩ q
    | vr i => exact ra.elim
    | op t d =>
      obtain ⟨ht, p, fp2, rfl, okk, hn⟩ := ra
      obtain ⟨fpc, c2⟩ := c2
      have c4 := c2.grow (fun a o h => L.keep a o h (fun z => nomatch z)) L.e L.imm L.ov
      refine hQ _ (.op t d) H' Hi' Γ2 (f2.trans L.e) ⟨c4.len, _, c4.push2 (x := some (.ref p)) (l := fp2) (s := .op t d) ⟨p, rfl, okk, fun a ha => .inl (c2.fresh (hn a ha).2.1).2, fun q hq => by omega⟩ fun a ha => ?_⟩ q
      exact ⟨(hn a ha).1, fun j hj hm => by obtain ⟨o, z⟩ := c2.trk hj hm; rw [(hn a ha).2.1] at z; cases z⟩
    | ow d =>
      obtain ⟨p, rfl, ow, hn, h0, hnf⟩ := ra
      obtain ⟨fpc, c2⟩ := c2
      obtain ⟨n1, n2⟩ := c2.fresh h0
      have c4 := c2.grow (fun a o h => L.keep a o h (fun z => nomatch z)) L.e L.imm L.ov
      refine hQ _ (.ow d) H' Hi' Γ2 (f2.trans L.e) ⟨c4.len, _, c4.push2 (x := some (.ref p)) (l := [p]) (s := .ow d) ⟨p, rfl, rfl, ow, n2⟩ fun a ha => ?_⟩ q
      have : a = p := by simpa using ha
      subst this
      exact ⟨hn, fun j hj hm => by obtain ⟨o, z⟩ := c2.trk hj hm; rw [h0] at z; cases z⟩
  · have c3 := c2.grow (fun a o h => L.keep a o h (fun z => nomatch z)) L.e L.imm L.ov
    exact hX x cl d H' Hi' Γ2 (f2.trans L.e) c3 hx q
theorem de_callKw (hK : X.K = G.K) (F : GdK X.prog X.w G X.mg X.base k x fs ps ks is) (hr : Room k X.A) (tk : L2N.Takes X W) (ha : DK X G W kws t w) (hall : (backToKw pos (keywordEach kws X.env)).all (·.1.isSome) = true := by rfl)
    (hks : (backToKw pos (keywordEach kws X.env)).filterMap (·.1) = ks := by rfl) (hg : Gl X x := by rfl) (hdb : (x == ("__debug__" : Str)) = false := by decide)
    (hpl : ((backTo pos (starEach [] X.env)).any (·.1) || (backToKw pos (keywordEach kws X.env)).any (·.1.isNone)) = false := by rfl) :
    DE X G W (.Call (.Name x p) [] kws pos) (tCallKw (lift G fs) is ks.length (L2.WE W) t) (wCallKw fs is ks.length w) := by
  obtain ⟨f, fd, h1, h2, h3, h4⟩ := F
  refine ⟨⟨fun pins s σ H Q I h => ?_⟩, sim_callKw ha.sim⟩
  rw [← hK] at h2 h3
  refine wpAny_Call_Name_kw (ld_glob I hg h1 ?_ hdb)
  refine PySem.W.callWith_KW0 (h₀ := X.base) I.ok.mod.kin h2 hall (thn (ha.pe.run pos pins s σ H _ I h) fun ws s1 ⟨vs, H1, I1, r, hl, q⟩ => ⟨I1.kIn, ?_⟩) hpl
  rw [hks]
  have hwl : ws.length = ks.length := by rw [← r.length]; exact hl
  refine wpAny_call (codeAny_mono (h3.run X.A X.stack s1 H1 ⟨[] ++ [], ks.zip ws⟩ (reord is ws) (reord is vs) Q (L2.WE W σ) hr I1.env0 (h4 s1 ws hwl) (Vals.reord r is) q) fun r s' hq => ?_)
  cases r with
  | error e => exact L2N.passAt tk σ pins H1 s1 e s' I1 hq
  | ok fl =>
    cases fl with
    | ret u => exact I1.after hq
    | next => exact False.elim hq
    | brk => exact False.elim hq
    | cont => exact False.elim hq
end
def oNeS : Op2 := fun a b k => isS a fun x => isS b fun y => k (.sh (.bool (!decide (x = y))))
theorem c_neS {X : Cx} {G : Gb} : C2 X G .NotEq rNe oNeS := ⟨op_ne, by
  intro C Hi σ H Γ x y a b k Q c ha hb h q
  obtain ⟨i, rfl, h1⟩ := isS_inv h
  obtain ⟨j, rfl, h2⟩ := isS_inv h1
  rw [ha.str, hb.str]
  refine ⟨rfl, ?_⟩
  have : decide (V.str i = V.str j) = decide (i = j) := by by_cases e : i = j <;> simp [e]
  rw [this]
  exact q _ _ H Hi (Ext.refl _) (out_bl c _) h2⟩
end VL

set_option Elab.async false
set_option linter.all false
set_option maxRecDepth 100000
namespace SC
open PySem L2 VL

def ins (l : List It) (p : Nat) (n : Str) (c : Int) : List It := l.take p ++ .rep n c :: l.drop p
end SC

set_option Elab.async false
set_option linter.all false
set_option maxRecDepth 100000
namespace SC
open PySem L2 VL

theorem cut_drop {l : List D} {p : Nat} (h : p ≤ l.length) : cutD l (some (p : Int)) none = l.drop p := by
  unfold cutD
  have : HT.sIx l.length 0 (some (p : Int)) = p := by rw [HT.sIx_nat]; omega
  rw [this]
  have : HT.sIx l.length l.length none = l.length := by simp [HT.sIx]
  rw [this]
  exact List.take_of_length_le (by simp)
theorem sc_take (l : List It) (p : Nat) : (sc l).take p = sc (l.take p) := by simp [sc]
def isMark : It → Str → Bool
  | .mark m, n => m == n
  | _, _ => false
end SC

set_option Elab.async false
set_option linter.all false
set_option maxRecDepth 100000
namespace SC
open PySem L2 VL

end SC

set_option Elab.async false
set_option linter.all false
set_option maxRecDepth 100000
namespace SC
open PySem L2 VL

@[simp ↓] theorem ev_wCallKw (fs : FS) (is : List Nat) (m : Nat) (wa : WA) (Γ : Ev) (Q : R → Ev → Prop) (X : XW) : wCallKw fs is m wa Γ Q X = wa Γ (fun rs Γ1 => frAll rs Γ1 fun ds Γ2 => ds.length = m ∧ fs none (reord is ds) (fun r _ => Q r Γ2) fun x _ => X x Γ2) X := rfl
end SC

set_option Elab.async false
set_option linter.all false
set_option maxRecDepth 100000
namespace SC
open PySem L2 VL

theorem b1 : PyData.strOk "bar" = true := by decide +kernel
theorem b2 : PyData.strOk "mark" = true := by decide +kernel
theorem b3 : PyData.strOk "repeat" = true := by decide +kernel
theorem s1 : ("bar" : Str).cps.size = 3 := by decide +kernel
theorem s2 : ("mark" : Str).cps.size = 4 := by decide +kernel
theorem s3 : ("repeat" : Str).cps.size = 6 := by decide +kernel
def It.shows : It → Prop
  | .bar n => nameB n = true
  | .mark n => nameB n = true
  | .rep n c => nameB n = true ∧ 1 ≤ c ∧ c < 2 ^ 31
theorem ok_shows : ∀ {l : List It} {ms : List Str}, ok ms l → ∀ it ∈ l, it.shows
  | [], _, _, _, h => nomatch h
  | x :: l, ms, h, it, hit => by
    rcases List.mem_cons.mp hit with rfl | hm
    · cases it with
      | bar n => exact h.1
      | mark n => exact h.1
      | rep n c => exact ⟨h.1, h.2.2.1⟩
    · cases x with
      | bar n => exact ok_shows h.2 it hm
      | mark n => exact ok_shows h.2.2 it hm
      | rep n c => exact ok_shows h.2.2.2 it hm
theorem name_size {n : Str} (h : nameB n = true) : n.cps.size ≤ 8 := by
  unfold nameB at h
  rw [Bool.and_eq_true, Bool.and_eq_true] at h
  have := of_decide_eq_true h.1.2
  exact this
theorem item_facts {it : It} (h : it.shows) : it.d.canLay0 = true ∧ it.d.depth ≤ 1 ∧ it.d.weight ≤ 60 ∧ it.d.intsShort 13 = true ∧ it.d.showable = true := by
  cases it with
  | bar n =>
    have hn := name_strOk h
    have hs := name_size h
    refine ⟨?_, ?_, ?_, ?_, ?_⟩
    · simp [It.d, PyData.canLay0, PyData.canLayAll0, hn, b1]
    · simp [It.d, PyData.depth, PyData.depthAll]
    · simp [It.d, PyData.weight, PyData.weightAll, s1]; omega
    · simp [It.d, PyData.intsShort, PyData.intsShortAll]
    · simp [It.d, PyData.showable, PyData.showableAll]
  | mark n =>
    have hn := name_strOk h
    have hs := name_size h
    refine ⟨?_, ?_, ?_, ?_, ?_⟩
    · simp [It.d, PyData.canLay0, PyData.canLayAll0, hn, b2]
    · simp [It.d, PyData.depth, PyData.depthAll]
    · simp [It.d, PyData.weight, PyData.weightAll, s2]; omega
    · simp [It.d, PyData.intsShort, PyData.intsShortAll]
    · simp [It.d, PyData.showable, PyData.showableAll]
  | rep n c =>
    obtain ⟨h, c1, c2⟩ := h
    have hn := name_strOk h
    have hs := name_size h
    have hi : (PyData.shown (.int c)).length ≤ 13 := PyData.shown_int_le (by omega)
    have hl : c.natAbs.log2 < 64 := PySem.Flt.log2_lt_of (by decide) (by omega)
    refine ⟨?_, ?_, ?_, ?_, ?_⟩
    · simp [It.d, PyData.canLay0, PyData.canLayAll0, hn, b3]
    · simp [It.d, PyData.depth, PyData.depthAll]
    · have hl2 : c.natAbs.log2 < 32 := PySem.Flt.log2_lt_of (by decide) (by omega)
      have : (if (c == 0) = true then 0 else c.natAbs.log2 + 1) ≤ 33 := by split <;> omega
      simp only [It.d, PyData.weight, PyData.weightAll, s3]; omega
    · simp [It.d, PyData.intsShort, PyData.intsShortAll, hi]
    · simp [It.d, PyData.showable, PyData.showableAll]; omega
theorem all_facts : ∀ {l : List It}, (∀ it ∈ l, it.shows) → PyData.canLayAll0 (sc l) = true ∧ PyData.depthAll (sc l) ≤ 1 ∧ PyData.weightAll (sc l) ≤ 61 * l.length ∧ PyData.intsShortAll 13 (sc l) = true ∧ PyData.showableAll (sc l) = true
  | [], _ => by simp [sc, PyData.canLayAll0, PyData.depthAll, PyData.weightAll, PyData.intsShortAll, PyData.showableAll]
  | it :: l, h => by
    obtain ⟨a1, a2, a3, a4, a5⟩ := item_facts (h it List.mem_cons_self)
    obtain ⟨i1, i2, i3, i4, i5⟩ := all_facts (l := l) fun x hx => h x (List.mem_cons_of_mem _ hx)
    rw [show sc (it :: l) = it.d :: sc l from rfl]
    refine ⟨?_, ?_, ?_, ?_, ?_⟩
    · simp [PyData.canLayAll0, a1, i1]
    · simp only [PyData.depthAll]; omega
    · simp only [PyData.weightAll, List.length_cons]; omega
    · simp [PyData.intsShortAll, a4, i4]
    · simp [PyData.showableAll, a5, i5]
theorem score_shown {l : List It} (h : ok [] l) (hl : l.length ≤ 10000) : SeqAt.shaped (.list (sc l)) = true ∧ PyData.showable (.list (sc l)) = true ∧ (PyData.shown (.list (sc l))).length ≤ sizeLine := by
  obtain ⟨i1, i2, i3, i4, i5⟩ := all_facts (ok_shows h)
  have c : PyData.canLay0 (.list (sc l)) = true := by simp [PyData.canLay0, i1]
  have dp : PyData.depth (.list (sc l)) ≤ 64 := by simp only [PyData.depth]; omega
  have w : PyData.weight (.list (sc l)) ≤ 2 ^ 20 := by simp only [PyData.weight]; omega
  have lay : PyData.layable0 (.list (sc l)) = true := by
    unfold PyData.layable0
    rw [c]
    simp [dp, w]
  refine ⟨by unfold SeqAt.shaped; rw [c]; simp [dp], by simp [PyData.showable, i5], ?_⟩
  have := PyData.shown_le_of_layable0 lay (by simp [PyData.intsShort, i4])
  rw [sizeLine_eq]
  omega
end SC

set_option Elab.async false
set_option linter.all false
set_option maxRecDepth 100000
namespace SC
open PySem L2 VL
def isRep (L : List It) (j : Nat) : Bool := match L[j]? with
  | some (.rep _ _) => true
  | _ => false
def cof (L : List It) (j : Nat) : Int := match L[j]? with
  | some (.rep _ c) => c
  | _ => 0
def stt (L : List It) (j : Nat) : Nat := match L[j]? with
  | some (.rep n _) => L.findIdx (isMark · n) + 1
  | _ => 0
end SC

set_option Elab.async false
set_option linter.all false
set_option maxRecDepth 100000
namespace SC
open PySem L2 VL

def tpS (L : List It) : Nat → List Nat × (Str → Nat)
  | 0 => ([], fun _ => 0)
  | n + 1 => match L[n]? with
    | some (.bar _) => ((tpS L n).1 ++ [n], (tpS L n).2)
    | some (.mark m) => ((tpS L n).1, fun x => if x = m then (tpS L n).1.length else (tpS L n).2 x)
    | some (.rep m c) => ((tpS L n).1 ++ (List.replicate c.toNat ((tpS L n).1.drop ((tpS L n).2 m))).flatten, (tpS L n).2)
    | none => tpS L n
abbrev tp (L : List It) (n : Nat) : List Nat := (tpS L n).1
abbrev ml (L : List It) (n : Nat) : Str → Nat := (tpS L n).2
abbrev tl (L : List It) (n : Nat) : Nat := (tp L n).length
section
variable {L : List It} {n : Nat}
abbrev TT (L : List It) : List Nat := tp L L.length
end
abbrev Sf (f : Nat → Int) (l : List Nat) : Int := (l.map f).sum
def SS1 (f : Nat → Int) (L : List It) (n : Nat) : Int := Sf f (tp L n)
def Sb (f : Nat → Int) (L : List It) (t : Nat) : Int := Sf f ((TT L).take t)
section
variable {L : List It} {n : Nat} {f : Nat → Int}
section
variable (h : ok [] L) {m : Str} {c : Int} (e : L[n]? = some (.rep m c)) {j : Nat} (hj : L[j]? = some (.mark m)) (hjn : j < n)
include h e hj hjn
end
end
end SC

set_option Elab.async false
set_option linter.all false
set_option maxRecDepth 100000
namespace SC
open PySem L2 VL

def ind (b : Nat) : Nat → Int := fun i => if i = b then 1 else 0
section
variable {L : List It} {n : Nat} {f : Nat → Int}
def Loc (f : Nat → Int) (L : List It) (a : Int) (t : Nat) (r : Int) : Prop := ∃ b, (TT L)[t]? = some b ∧ Sb f L t + r = a ∧ 0 ≤ r ∧ r < f b
end
end SC

set_option Elab.async false
set_option linter.all false
set_option maxRecDepth 100000
namespace SC
open PySem L2 VL

abbrev Act := List (Nat × Int)
def Vs (L : List It) : Nat → Nat → Act → Prop
  | _, _, [] => True
  | ins, m, q :: a => (isRep L q.1 = true ∧ m ≤ q.1 ∧ stt L q.1 ≤ ins ∧ 1 ≤ q.2 ∧ q.2 ≤ cof L q.1) ∧ Vs L q.1 (q.1 + 1) a
def aw (w : Nat → Int) (a : Act) : Int := (a.map fun q => q.2 * w q.1).sum
def sg (L : List It) (r : Nat) : Int := (tl L r : Int) - (tl L (stt L r) : Int)
def tv (L : List It) (p : Nat) (a : Act) : Int := (tl L p : Int) + aw (sg L) a
section
variable {L : List It}
theorem Vs.out {ins ins' m : Nat} (hi : ins ≤ ins') : ∀ {a : Act}, Vs L ins m a → Vs L ins' m a
  | [], _ => True.intro
  | q :: a, ⟨⟨h1, h2, h3, h5⟩, h4⟩ => ⟨⟨h1, h2, by omega, h5⟩, h4⟩
theorem Vs.up {ins m : Nat} (hm : isRep L m = false) : ∀ {a : Act}, Vs L ins m a → Vs L ins (m + 1) a
  | [], _ => True.intro
  | q :: a, ⟨⟨h1, h2, h3⟩, h4⟩ => ⟨⟨h1, by
    have : m ≠ q.1 := fun z => by rw [z] at hm; rw [h1] at hm; cases hm
    omega, h3⟩, h4⟩
section
variable {F w : Nat → Int} (hF : ∀ i j, i ≤ j → j ≤ L.length → F i ≤ F j) (hw : ∀ r, isRep L r = true → 0 ≤ w r ∧ F r + cof L r * w r ≤ F (r + 1))
include hF hw
end
end
end SC

set_option Elab.async false
set_option linter.all false
set_option maxRecDepth 100000
namespace VL
open PySem L2

section
variable {g : WG} {b : WS} {Dn : WD} {X : XW} {Γ : Ev}
theorem drop_cons {α : Type} {ds r : List α} {d : α} {n : Nat} (e : ds.drop n = d :: r) : ds[n]? = some d ∧ ds.drop (n + 1) = r ∧ n < ds.length := by
  have h1 : ds[n]? = some d := by
    have := congrArg (·[0]?) e
    simpa using this
  refine ⟨h1, ?_, (List.getElem?_eq_some_iff.mp h1).1⟩
  have := congrArg (List.drop 1) e
  simpa [Nat.add_comm] using this
theorem drop_nil {α : Type} {ds : List α} {n : Nat} (e : ds.drop n = []) : ds.length ≤ n := by simpa using e
theorem loop_inv (I : Nat → Ev → Prop) {ds : List PyData} (h0 : I 0 Γ)
    (hs : ∀ (i : Nat) (d : PyData) (Γ : Ev) (k : Ev → Prop), ds[i]? = some d → I i Γ → (∀ Γ', I (i + 1) Γ' → k Γ') → g d Γ fun Γ1 => b Γ1 ⟨k, Dn.rt, Dn.nx, k⟩ X)
    (hd : ∀ Γ, I ds.length Γ → Dn.nx Γ) : loopW g b Dn X ds Γ := by
  suffices h : ∀ (r : List PyData) (n : Nat) (Γ : Ev), ds.drop n = r → n ≤ ds.length → I n Γ → loopW g b Dn X r Γ from h ds 0 Γ rfl (Nat.zero_le _) h0
  intro r
  induction r with
  | nil =>
    intro n Γ e hn h
    have := drop_nil e
    have : n = ds.length := by omega
    subst this
    exact hd _ h
  | cons d r ih =>
    intro n Γ e hn h
    obtain ⟨h1, h2, h3⟩ := drop_cons e
    exact hs n d Γ _ h1 h fun Γ' h' => ih (n + 1) Γ' h2 h3 h'
end
section
variable {vs : List Nat} {g : WG} {t : WT} {w wk wv : WE} {k : List D → Ev → Prop} {Γ : Ev}
def lcT (vs : List Nat) (g : WG) (t : WT) (w : WE) (k : List D → Ev → Prop) (d : D) (acc : List D) (Γ : Ev) : Prop :=
  g d Γ fun Γ1 => t Γ1 (fun b Γ2 => if b = true then w Γ2 (fun r Γ3 => frW r Γ3 fun e Γ4 => acc.length < sizeLine ∧ k (acc ++ [e]) (wipeE Γ4 vs)) noX else k acc (wipeE Γ2 vs)) noX
theorem lc_inv (I : Nat → List D → Ev → Prop) {ds : List PyData} (h0 : I 0 [] Γ)
    (hs : ∀ (i : Nat) (d : PyData) (acc : List D) (Γ : Ev) (k : List D → Ev → Prop), ds[i]? = some d → I i acc Γ → (∀ acc' Γ', I (i + 1) acc' Γ' → k acc' Γ') → lcT vs g t w k d acc Γ)
    (hd : ∀ acc Γ, I ds.length acc Γ → k acc Γ) : lcW vs g t w k ds [] Γ := by
  suffices h : ∀ (r : List PyData) (n : Nat) (acc : List D) (Γ : Ev), ds.drop n = r → n ≤ ds.length → I n acc Γ → lcW vs g t w k r acc Γ from h ds 0 [] Γ rfl (Nat.zero_le _) h0
  intro r
  induction r with
  | nil =>
    intro n acc Γ e hn h
    have := drop_nil e
    have : n = ds.length := by omega
    subst this
    exact hd _ _ h
  | cons d r ih =>
    intro n acc Γ e hn h
    obtain ⟨h1, h2, h3⟩ := drop_cons e
    exact hs n d acc Γ (fun acc Γ => lcW vs g t w k r acc Γ) h1 h fun acc' Γ' h' => ih (n + 1) acc' Γ' h2 h3 h'
theorem lc_list {α : Type} (l : List α) (dl : Nat → α → D) (f : Nat → α → List D) (hf : ∀ i a, (f i a).length ≤ 1) (hl : l.length ≤ 1000000)
    (hs : ∀ (i : Nat) (a : α) (acc : List D) (k : List D → Ev → Prop), l[i]? = some a → acc.length < sizeLine → k (acc ++ f i a) Γ → lcT vs g t w k (dl i a) acc Γ)
    (hd : k (l.mapIdx f).flatten Γ) : lcW vs g t w k (l.mapIdx dl) [] Γ := by
  have len : ∀ n, (((l.take n).mapIdx f).flatten).length ≤ n := by
    intro n
    induction n with
    | zero => simp
    | succ n ih =>
      rw [List.take_succ]
      cases e : l[n]? with
      | none => simpa using Nat.le_succ_of_le ih
      | some a =>
        have hn : n < l.length := (List.getElem?_eq_some_iff.mp e).1
        rw [show (some a).toList = [a] from rfl, List.mapIdx_append, List.flatten_append, List.length_append]
        have h1 := hf (0 + (l.take n).length) a
        have h2 : ([a].mapIdx fun i => f (i + (l.take n).length)).flatten = f (0 + (l.take n).length) a := by simp
        rw [h2]
        omega
  refine lc_inv (fun i acc Γ' => acc = ((l.take i).mapIdx f).flatten ∧ Γ' = Γ) ⟨rfl, rfl⟩ ?_ ?_
  · rintro i d acc Γ' k' hi ⟨rfl, rfl⟩ hk
    rw [List.getElem?_mapIdx] at hi
    cases e : l[i]? with
    | none => rw [e] at hi; cases hi
    | some a =>
      rw [e] at hi
      have hil : i < l.length := (List.getElem?_eq_some_iff.mp e).1
      cases (Option.some.inj hi)
      refine hs i a _ k' e (by have := len i; rw [sizeLine_eq]; omega) (hk _ _ ⟨?_, rfl⟩)
      rw [List.take_succ, e, show (some a).toList = [a] from rfl, List.mapIdx_append, List.flatten_append]
      congr 1
      rw [List.length_take, Nat.min_eq_left (by omega)]
      simp
  · rintro acc Γ' ⟨rfl, rfl⟩
    rw [List.length_mapIdx, List.take_of_length_le (Nat.le_refl _)]
    exact hd
theorem lc_filter {α : Type} (l : List α) (dl : Nat → α → D) (f : Nat → α → Option D) (hl : l.length ≤ 1000000)
    (hs : ∀ (i : Nat) (a : α) (acc : List D) (k : List D → Ev → Prop), l[i]? = some a → acc.length < sizeLine → k (acc ++ (f i a).toList) Γ → lcT vs g t w k (dl i a) acc Γ)
    (hd : k ((l.mapIdx f).filterMap id) Γ) : lcW vs g t w k (l.mapIdx dl) [] Γ := by
  refine lc_list l dl (fun i a => (f i a).toList) (fun i a => by cases f i a <;> simp) hl hs ?_
  have : ∀ (l : List α) (f : Nat → α → Option D), (l.mapIdx fun i a => (f i a).toList).flatten = (l.mapIdx f).filterMap id := by
    intro l
    induction l with
    | nil => intro f; rfl
    | cons a l ih => intro f; cases e : f 0 a <;> simp [List.mapIdx_cons, ih, e]
  rw [this]
  exact hd
end
section
variable {vs : List Nat} {g : WG} {t : WT} {wk wv : WE} {k : List (D × D) → Ev → Prop} {Γ : Ev}
def dcT (vs : List Nat) (g : WG) (t : WT) (wk wv : WE) (k : List (D × D) → Ev → Prop) (d : D) (acc : List (D × D)) (Γ : Ev) : Prop :=
  g d Γ fun Γ1 => t Γ1 (fun b Γ2 => if b = true then wk Γ2 (fun rk Γ3 => wv Γ3 (fun rv Γ4 => frW rk Γ4 fun ek Γ5 => frW rv Γ5 fun e Γ6 => isK ek (acc.length < sizeLine ∧ k (dput acc ek e) (wipeE Γ6 vs))) noX) noX
      else k acc (wipeE Γ2 vs)) noX
theorem dc_inv (I : Nat → List (D × D) → Ev → Prop) {ds : List PyData} (h0 : I 0 [] Γ)
    (hs : ∀ (i : Nat) (d : PyData) (acc : List (D × D)) (Γ : Ev) (k : List (D × D) → Ev → Prop), ds[i]? = some d → I i acc Γ → (∀ acc' Γ', I (i + 1) acc' Γ' → k acc' Γ') → dcT vs g t wk wv k d acc Γ)
    (hd : ∀ acc Γ, I ds.length acc Γ → k acc Γ) : dcW vs g t wk wv k ds [] Γ := by
  suffices h : ∀ (r : List PyData) (n : Nat) (acc : List (D × D)) (Γ : Ev), ds.drop n = r → n ≤ ds.length → I n acc Γ → dcW vs g t wk wv k r acc Γ from h ds 0 [] Γ rfl (Nat.zero_le _) h0
  intro r
  induction r with
  | nil =>
    intro n acc Γ e hn h
    have := drop_nil e
    have : n = ds.length := by omega
    subst this
    exact hd _ _ h
  | cons d r ih =>
    intro n acc Γ e hn h
    obtain ⟨h1, h2, h3⟩ := drop_cons e
    exact hs n d acc Γ (fun acc Γ => dcW vs g t wk wv k r acc Γ) h1 h fun acc' Γ' h' => ih (n + 1) acc' Γ' h2 h3 h'
end
theorem map_mapIdx {α β : Type} (l : List α) (f : α → β) : l.map f = l.mapIdx fun _ a => f a := by
  induction l with
  | nil => rfl
  | cons a l ih => simp [List.mapIdx_cons, ih]
theorem mapIdx_fm {α : Type} (f : α → Option D) : ∀ l : List α, (l.mapIdx fun _ a => f a).filterMap id = l.filterMap f
  | [] => rfl
  | a :: l => by
    rw [List.mapIdx_cons, List.filterMap_cons, List.filterMap_cons, mapIdx_fm f l]
    rfl
section
variable {vs : List Nat} {g : WG} {t : WT} {w : WE} {k : List D → Ev → Prop} {Γ : Ev} {α : Type}
theorem lcm_some (l : List α) (dl : α → D) (f : α → Option D) (hl : l.length ≤ 1000000)
    (hs : ∀ (a : α) (acc : List D) (k : List D → Ev → Prop), a ∈ l → acc.length < sizeLine → k (acc ++ (f a).toList) Γ → lcT vs g t w k (dl a) acc Γ)
    (hd : k (l.filterMap f) Γ) : lcW vs g t w k (l.map dl) [] Γ := by
  rw [map_mapIdx]
  refine lc_filter l (fun _ a => dl a) (fun _ a => f a) hl (fun i a acc k hi => hs a acc k (List.mem_of_getElem? hi)) ?_
  rw [mapIdx_fm]
  exact hd
theorem lcm_map (l : List α) (dl f : α → D) (hl : l.length ≤ 1000000)
    (hs : ∀ (a : α) (acc : List D) (k : List D → Ev → Prop), a ∈ l → acc.length < sizeLine → k (acc ++ [f a]) Γ → lcT vs g t w k (dl a) acc Γ)
    (hd : k (l.map f) Γ) : lcW vs g t w k (l.map dl) [] Γ :=
  lcm_some l dl (fun a => some (f a)) hl hs (by rw [List.filterMap_eq_map']; exact hd)
theorem filt_fm (q : α → Bool) (dl : α → D) : ∀ l : List α, l.filterMap (fun a => if q a = true then some (dl a) else none) = (l.filter q).map dl
  | [] => rfl
  | a :: l => by
    rw [List.filterMap_cons, List.filter_cons, filt_fm q dl l]
    cases q a <;> simp
theorem lcm_filt (l : List α) (dl f : α → D) (q : α → Bool) (hl : l.length ≤ 1000000)
    (hs : ∀ (a : α) (acc : List D) (k : List D → Ev → Prop), a ∈ l → acc.length < sizeLine → (q a = true → k (acc ++ [f a]) Γ) → (q a = false → k acc Γ) → lcT vs g t w k (dl a) acc Γ)
    (hd : k ((l.filter q).map f) Γ) : lcW vs g t w k (l.map dl) [] Γ := by
  refine lcm_some l dl (fun a => if q a = true then some (f a) else none) hl (fun a acc k ha hz hk => hs a acc k ha hz (fun e => ?_) (fun e => ?_)) ?_
  · rw [if_pos e] at hk; exact hk
  · rw [if_neg (by rw [e]; simp)] at hk; simpa using hk
  · rw [filt_fm]; exact hd
end
end VL

set_option Elab.async false
set_option linter.all false
set_option maxRecDepth 100000
namespace SC
open PySem L2 VL

def e_law_score : WS := wIfS (wOr (wT (wOp oEq (wVar 2) (wC (.int 0)))) (wT (wOp (oIB fun i j => decide (i < j)) (wVar 5) (wVar 2)))) (wSeq (wDrop (wMut 3 fAppend (wCons (wTup (wCons (wC (.str "bar")) (wCons (wVar 10) (wNil)))) wNil))) (wSet 5 (wOp oAdd (wVar 5) (wC (.int 1))))) (wNext)
theorem c_eq : c_law_score = wIfS (wAnd (wT (wOp oEq (wVar 9) (wC (.int 3)))) (wT (wOp (oIn true) (wVar 10) (wVar 4)))) (wSeq (wDrop (wMut 3 fAppend (wCons (wTup (wCons (wC (.str "mark")) (wCons (wVar 10) (wNil)))) wNil))) (wDPut 4 (wVar 10) (wVar 5))) (wIfS (wAnd (wT (wOp (oIB fun i j => decide (j < i)) (wVar 9) (wC (.int 3)))) (wAnd (wT (wOp oNe (wVar 13) (wC (.str "")))) (wAnd (wT (wOp (oIB fun i j => decide (j < i)) (wVar 11) (wC (.int 0)))) (wOr (wT (wOp (oIB fun i j => decide (j < i)) (wVar 14) (wC (.int 0)))) (wOr (wT (wOp oEq (wVar 2) (wC (.int 0)))) (wT (wOp (oIB fun i j => decide (i < j)) (wVar 6) (wC (.int 4))))))))) (wSeq (wDrop (wMut 3 fAppend (wCons (wTup (wCons (wC (.str "repeat")) (wCons (wVar 13) (wCons (wIf (wOr (wT (wOp (oIB fun i j => decide (j < i)) (wVar 14) (wC (.int 0)))) (wT (wOp oEq (wVar 2) (wC (.int 0))))) (wVar 11) (wC (.int 1))) (wNil))))) wNil))) (wSet 5 (wOp oAdd (wVar 5) (wOp oMul (wVar 11) (wVar 14))))) e_law_score) := rfl
structure ScJ (cap : Int) (i : Nat) (l : List It) (ps : List (D × D)) (len : Int) : Prop where
  ok : ok [] l
  ll : l.length ≤ i
  mks : Marks ps (mk [] l)
  ks : ∃ ks : List Str, ps.map (·.1) = ks.map .str ∧ ks.length ≤ i ∧ ∀ n ∈ ks, n ∈ mk [] l ∧ nameB n = true
  vals : ∀ x v, dget ps (.str x) = some v → v = .int ((st p0 l).1 x)
  tot : len = total l
  top : 0 < cap → len ≤ cap
theorem ScJ.up {cap : Int} {i : Nat} {l : List It} {ps : List (D × D)} {len : Int} (h : ScJ cap i l ps len) : ScJ cap (i + 1) l ps len :=
  ⟨h.ok, Nat.le_succ_of_le h.ll, h.mks, let ⟨ks, a, b, c⟩ := h.ks; ⟨ks, a, Nat.le_succ_of_le b, c⟩, h.vals, h.tot, h.top⟩
theorem st_snoc (l : List It) (it : It) : st p0 (l ++ [it]) = stp (st p0 l) it := by unfold st; rw [List.foldl_append]; rfl
end SC

set_option Elab.async false
set_option linter.all false
set_option maxRecDepth 100000
namespace SC
open PySem L2 VL

end SC

set_option Elab.async false
set_option linter.all false
set_option maxRecDepth 100000
namespace SC
open PySem L2 VL

end SC

set_option Elab.async false
set_option linter.all false
set_option maxRecDepth 100000
namespace VL
open PySem L2

section
variable {X : Cx} {G : Gb}
def oTuple : Op1 := fun d k => match d with
  | .list l => k (.sh (.tuple l))
  | .tuple l => k (.sh (.tuple l))
  | _ => False
@[simp ↓] theorem ev_oTuple_l (l : List D) (k : R → Prop) : oTuple (.list l) k = k (.sh (.tuple l)) := rfl
@[simp ↓] theorem ev_oTuple_t (l : List D) (k : R → Prop) : oTuple (.tuple l) k = k (.sh (.tuple l)) := rfl
def oDivm : Op2 := fun a b k => isI a fun i => isI b fun j => CDivW i j ∧ k (.sh (.tuple [.int (i / j), .int (i % j)]))
@[simp ↓] theorem ev_oDivm (i j : Int) (k : R → Prop) : oDivm (.int i) (.int j) k = (CDivW i j ∧ k (.sh (.tuple [.int (i / j), .int (i % j)]))) := rfl
@[simp ↓] theorem ev_oMul_l (l : List D) (j : Int) (k : R → Prop) : oMul (.list l) (.int j) k = ((-(2 ^ 63) ≤ j ∧ j < 2 ^ 63) ∧ l.length * j.toNat ≤ sizeLine ∧ k (.ow (.list (List.replicate j.toNat l).flatten))) := rfl
end
end VL

set_option Elab.async false
set_option linter.all false
set_option maxRecDepth 100000
namespace SC
open PySem L2 VL

structure Wt (f : Nat → Int) (L : List It) (w : Nat) : Prop where
  lo : ∀ i, 0 ≤ f i
  hi : ∀ i, f i ≤ 2 ^ w
  sz : w + 31 * L.length ≤ 9000
end SC

set_option Elab.async false
set_option linter.all false
set_option maxRecDepth 100000
namespace SC
open PySem L2 VL

end SC

set_option Elab.async false
set_option linter.all false
set_option maxRecDepth 100000
namespace SC
open PySem L2 VL

end SC

set_option Elab.async false
set_option linter.all false
set_option maxRecDepth 100000
namespace VL
open PySem L2

def dmerge (kvs : List (Key × D)) (acc : List (D × D)) : List (D × D) := kvs.foldl (fun acc p => dput acc (kD p.1) p.2) acc
theorem pairs_rep {K : Fg} {Hi H : Hp} (e : Ext Hi H) : ∀ {kvs : List (Key × D)} {xs : List V}, Reps K Hi xs (kvs.map fun p => .tuple [kD p.1, p.2]) → ∃ (ps : List Addr) (kvv : List (Key × V)), xs = ps.map V.ref ∧ Paired (fun p kv => SqT K H p [kV kv.1, kv.2]) ps kvv ∧
    ∀ (acc : List (Key × V)) (accD : List (D × D)), RepKV K Hi acc accD → RepKV K Hi (mergeK acc kvv) (dmerge kvs accD)
  | [], _, .nil => ⟨[], [], rfl, .nil, fun acc accD h => h⟩
  | p :: kvs, _, .cons h r => by
    obtain ⟨ps, kvv, rfl, hp, hm⟩ := pairs_rep e r
    cases h with
    | tup ht hr =>
      rename_i a ys
      cases hr with
      | cons r1 rr =>
        cases rr with
        | cons r2 rr2 =>
          cases rr2
          rename_i v1 v2
          have ek := r1.key
          subst ek
          refine ⟨a :: ps, (p.1, v2) :: kvv, rfl, .cons (SqT.of (e _ _ ht)) hp, fun acc accD h => ?_⟩
          exact hm _ _ (h.put r2)
end VL

set_option Elab.async false
set_option linter.all false
set_option maxRecDepth 100000
namespace SC
open PySem L2 VL

end SC

set_option Elab.async false
set_option linter.all false
set_option maxRecDepth 100000
namespace SC
open PySem L2 VL

end SC

set_option Elab.async false
set_option linter.all false
set_option maxRecDepth 100000
namespace SC
open PySem L2 VL

end SC

set_option Elab.async false
set_option linter.all false
set_option maxRecDepth 100000
namespace SC
open PySem L2 VL

end SC

set_option Elab.async false
set_option linter.all false
set_option maxRecDepth 100000
namespace VL
open PySem PySem.Spec L2 PyProof.Rows

abbrev nuSet (w : World) : Obj := { cls := .type "set", dict := none, data := .set #[] 0 (.fresh 0 0 (!w.params.followText "set-order")) }
abbrev nuHeap (w : World) (s : Shared) : Heap := s.heap.push (nuSet w)
section
variable {P : Program} {w : World} {A : Around} {E : Value → Shared → Prop} {s : Shared}
set_option maxHeartbeats 4000000 in
end
end VL

set_option Elab.async false
set_option linter.all false
set_option maxRecDepth 100000
namespace VL
open PySem PySem.Spec L2 PyProof.Rows

section
variable {X : Cx} {G : Gb} {W : WX} {C : Cf} {Hi H H' : Hp} {σ : St} {Γ : Ev}
def oSortSet : Op1 := fun d k => isL d fun l => ∃ ns : List Int, l = ns.map .int ∧ ns.length < 63 ∧ ∀ ns' : List Int, ns'.Pairwise (· < ·) → (∀ x, x ∈ ns' ↔ x ∈ ns) → k (.ow (.list (ns'.map .int)))
def tyD (T : String) (d : D) : Prop := match d with
  | .str _ => T = "str"
  | .int _ => T = "int"
  | .list _ => T = "list"
  | _ => False
abbrev OpMR := D → List D → (R → Prop) → Prop
def SemMR (G : Gb) (r : V → List V → Hp → VK → Prop) (o : OpMR) : Prop := ∀ {C : Cf} {Hi : Hp} {σ : St} {H : Hp} {Γ : Ev} {x : V} {xs : List V} {d : D} {ds : List D} {k : R → Prop} {Q : VK}, Rel G C Hi σ H Γ → Rdb G.K Hi H x d → Rdbs G.K Hi H xs ds → o d ds k →
  (∀ v r H' Hi', Ext Hi Hi' → Out G C Hi' σ H' Γ v r → k r → Q v H') → r x xs H Q
def wMR (T : String) (o : OpMR) (wo : WE) (wa : WA) : WE := fun Γ Q X => wo Γ (fun r Γ1 => rdW r Γ1 fun d => tyD T d ∧ wa Γ1 (fun rs Γ2 => rdW r Γ2 fun d => rdAll rs Γ2 fun ds => o d ds fun r' => Q r' Γ2) X) X
def wMR0 (T : String) (o : OpMR) (wo : WE) : WE := fun Γ Q X => wo Γ (fun r Γ1 => rdW r Γ1 fun d => tyD T d ∧ o d [] fun r' => Q r' Γ1) X
theorem tyV_of {K : Fg} {T : String} {x : V} {d : D} (e : Ext Hi H) (h : Rdb K Hi H x d) (t : tyD T d) : tyV K T x H := by
  unfold tyD at t
  split at t
  · rw [h.str]; exact t
  · rw [h.int]; exact t
  · obtain ⟨p, xs, rfl, s, _⟩ := h.list e
    exact .inl ⟨t, _, SqL.of s⟩
  · exact t.elim
theorem sim_mr {T : String} {r : V → List V → Hp → VK → Prop} {o : OpMR} {to : TE} {wo : WE} {ta : TA} {wa : WA} (h : SemMR G r o) (ho : SimE G W to wo) (ha : SimA G W ta wa) : SimE G W (tBM G.K T r to ta) (wMR T o wo wa) := by
  intro C Hi σ H Γ Q Qd Xd c hw hQ hX
  refine ho C Hi σ H Γ _ _ Xd c hw (fun v1 r1 H1 Hi1 Γ1 e1 o1 q1 => ?_) hX
  obtain ⟨Hi2, e2, c2, h2⟩ := o1.hold
  obtain ⟨d, b1, t1, q2⟩ := h2.read c2 q1
  have f2 := e1.trans e2
  refine ⟨tyV_of c2.imm b1 t1, ha C Hi2 σ H1 Γ1 _ _ Xd c2 q2 (fun vs rs H3 Hi3 Γ3 e3 c3 h3 q3 => ?_) fun x c d H' Hi' Γ' e' => hX x c d H' Hi' Γ' (f2.trans e')⟩
  obtain ⟨d', b3, q4⟩ := (h2.mono e3).read c3 q3
  obtain ⟨ds, bs, q5⟩ := h3.read c3 q4
  exact h c3 b3 bs q5 fun v r H' Hi' e o q => hQ v r H' Hi' Γ3 ((f2.trans e3).trans e) o q
theorem de_mr {o e : Expr} {es : List Expr} {to : TE} {wo : WE} {t : TA} {wa : WA} {name : Str} {apos cpos : Pos} {T id : String} {r : V → List V → Hp → VK → Prop} {f : OpMR} (hK : X.K = G.K) (pa : PlainAttrs T) (slot : Slot T name id) (hty : typeOf (.builtin id) = pure (.type "method_descriptor")) (hm : MtR X id r) (hs' : SemMR G r f) (ho : DE X G W o to wo) (ha : DA X G W (e :: es) t wa)
    (h1 : attributeBase o name X.env (eval o X.env) = eval o X.env := by rfl)
    (h2 : ((backTo cpos (starEach (e :: es) X.env)).all (fun x => !x.1) && (backToKw cpos (keywordEach [] X.env)).all (fun x => x.1.isSome)
      && decide ((e :: es).length + ([] : List Keyword).length + (if ([] : List Keyword).isEmpty then 0 else 1) < 30)) = true := by rfl)
    (h3 : (apos.endLine == cpos.line) = true := by rfl) (h4 : starEach (e :: es) X.env = (false, eval e X.env) :: starEach es X.env := by rfl) (h5 : (backTo cpos (starEach es X.env)).any (·.1) = false := by rfl) :
    DE X G W (.Call (.Attribute o name apos) (e :: es) [] cpos) (tBM G.K T r to t) (wMR T f wo wa) := ⟨by rw [← hK]; exact pe_bm pa slot hty hm ho.pe ha.pe h1 h2 h3 h4 h5, sim_mr hs' ho.sim ha.sim⟩
def oCnt : OpMR := fun d ds k => match ds with
  | [e] => isL d fun l => isI e fun i => ∃ ns : List Int, l = ns.map .int ∧ k (.sh (.int (ns.count i : Nat)))
  | _ => False
@[simp ↓] theorem ev_wMR (T : String) (o : OpMR) (wo : WE) (wa : WA) (Γ : Ev) (Q : R → Ev → Prop) (X : XW) : wMR T o wo wa Γ Q X = (wo Γ (fun r Γ1 => rdW r Γ1 fun d => tyD T d ∧ wa Γ1 (fun rs Γ2 => rdW r Γ2 fun d => rdAll rs Γ2 fun ds => o d ds fun r' => Q r' Γ2) X) X) := rfl
@[simp ↓] theorem ev_wMR0 (T : String) (o : OpMR) (wo : WE) (Γ : Ev) (Q : R → Ev → Prop) (X : XW) : wMR0 T o wo Γ Q X = (wo Γ (fun r Γ1 => rdW r Γ1 fun d => tyD T d ∧ o d [] fun r' => Q r' Γ1) X) := rfl
@[simp] theorem tyD_l (l : List D) : tyD "list" (.list l) = True := by simp [tyD]
@[simp] theorem tyD_s (l : Str) : tyD "str" (.str l) = True := by simp [tyD]
@[simp ↓] theorem ev_cnt (l : List D) (i : Int) (k : R → Prop) : oCnt (.list l) [.int i] k = ∃ ns : List Int, l = ns.map .int ∧ k (.sh (.int (ns.count i : Nat))) := rfl
@[simp ↓] theorem ev_sortset (l : List D) (k : R → Prop) : oSortSet (.list l) k = ∃ ns : List Int, l = ns.map .int ∧ ns.length < 63 ∧ ∀ ns' : List Int, ns'.Pairwise (· < ·) → (∀ x, x ∈ ns' ↔ x ∈ ns) → k (.ow (.list (ns'.map .int))) := rfl
end
end VL

set_option Elab.async false
set_option linter.all false
set_option maxRecDepth 100000
namespace SC
open PySem L2 VL

end SC

set_option Elab.async false
set_option linter.all false
set_option maxRecDepth 100000
namespace VL
open PySem L2

def fltP : D → Prop
  | .int _ => True
  | .str _ => True
  | .bool _ => True
  | .none => True
  | _ => False
section
variable {K : Fg} {H H' : Hp}
theorem Rep.flat {v : V} {d : D} (h : Rep K H v d) (f : fltP d) : Rep K H' v d := by
  cases h with
  | non => exact .non
  | bl b => exact .bl b
  | int i => exact .int i
  | str z => exact .str z
  | lst _ _ => exact f.elim
  | tup _ _ => exact f.elim
  | dct _ _ => exact f.elim
theorem Reps.flat : ∀ {vs : List V} {ds : List D}, Reps K H vs ds → (∀ e ∈ ds, fltP e) → Reps K H' vs ds
  | _, _, .nil, _ => .nil
  | _, _, .cons h r, f => .cons (h.flat (f _ List.mem_cons_self)) (Reps.flat r fun e he => f e (List.mem_cons_of_mem _ he))
theorem RepKV.flat : ∀ {kvs : List (Key × V)} {ps : List (D × D)}, RepKV K H kvs ps → (∀ p ∈ ps, fltP p.2) → RepKV K H' kvs ps
  | _, _, .nil, _ => .nil
  | _, _, .cons h r, f => .cons (h.flat (f _ List.mem_cons_self)) (RepKV.flat r fun e he => f e (List.mem_cons_of_mem _ he))
end
def ΓK (Γ : Ev) (i : Nat) (ps : List (D × D)) : Ev := (Γ.map fun _ => Sl.no).set i (.sh (.dict ps))
def wLcK (i : Nat) (vs : List Nat) (g : WG) (t : WT) (w : WE) : WE := fun Γ Q X => match Γ[i]? with
  | some (.sh (.dict ps)) => (∀ p ∈ ps, fltP p.2) ∧ okW (ΓK Γ i ps) vs ∧ lcW vs g t w (fun acc _ => (∀ e ∈ acc, fltP e) ∧ Q (.ow (.list acc)) Γ) (ps.map (·.1)) [] (wipeE (ΓK Γ i ps) vs)
  | _ => False
section
variable {G : Gb} {W : WX} {g : TG} {wg : WG} {tt : TT} {wt : WT} {te : TE} {we : WE} {vs : List Nat} {C : Cf} {Hi H H' HL : Hp} {σ : St} {Γ : Ev}
end
section
variable {X : Cx} {G : Gb} {W : WX} {tg e : Expr} {ifs : List Expr} {scope : Scope} {own : List (Str × Nat)} {pos p : Pos} {g : TG} {wg : WG} {tt : TT} {wt : WT} {te : TE} {we : WE}
end
end VL

set_option Elab.async false
set_option linter.all false
set_option maxRecDepth 100000
namespace SC
open PySem L2 VL

def WD (ps : List (D × D)) : Prop := ∀ p ∈ ps, ∃ (nm : Str) (i : Int), p = (.str nm, .int i) ∧ nameB nm = true ∧ 0 ≤ i ∧ i ≤ 1000000000000
def gw (ps : List (D × D)) (nm : Str) : Int := match dget ps (.str nm) with
  | some (.int i) => i
  | _ => 0
theorem dget_mem {ps : List (D × D)} {k v : D} (h : dget ps k = some v) : ∃ p ∈ ps, p.2 = v := by
  unfold dget at h
  cases e : ps.find? fun p => keyEq p.1 k with
  | none => rw [e] at h; cases h
  | some p =>
    rw [e] at h
    exact ⟨p, List.mem_of_find?_eq_some e, Option.some.inj h⟩
theorem WD.get {ps : List (D × D)} (h : WD ps) {k v : D} (e : dget ps k = some v) : ∃ i : Int, v = .int i ∧ 0 ≤ i ∧ i ≤ 1000000000000 := by
  obtain ⟨p, hp, rfl⟩ := dget_mem e
  obtain ⟨nm, i, rfl, _, h0, h1⟩ := h p hp
  exact ⟨i, rfl, h0, h1⟩
theorem WD.getD {ps : List (D × D)} (h : WD ps) (nm : Str) : (dget ps (.str nm)).getD (.int 0) = .int (gw ps nm) ∧ 0 ≤ gw ps nm ∧ gw ps nm ≤ 1000000000000 := by
  unfold gw
  cases e : dget ps (.str nm) with
  | none => exact ⟨rfl, by decide, by decide⟩
  | some v =>
    obtain ⟨i, rfl, h0, h1⟩ := h.get e
    exact ⟨rfl, h0, h1⟩
theorem WD.put {ps : List (D × D)} (h : WD ps) {nm : Str} {i : Int} (hn : nameB nm = true) (h0 : 0 ≤ i) (h1 : i ≤ 1000000000000) : WD (dput ps (.str nm) (.int i)) := by
  intro p hp
  unfold dput at hp
  split at hp
  · obtain ⟨q, hq, rfl⟩ := List.mem_map.mp hp
    obtain ⟨m, j, rfl, a, b, c⟩ := h q hq
    split
    · exact ⟨m, i, rfl, a, h0, h1⟩
    · exact ⟨m, j, rfl, a, b, c⟩
  · rcases List.mem_append.mp hp with z | z
    · exact h p z
    · have : p = (.str nm, .int i) := by simpa using z
      exact ⟨nm, i, this, hn, h0, h1⟩
@[simp] theorem ev_wLcK (i : Nat) (vs : List Nat) (g : WG) (t : WT) (w : WE) (Γ : Ev) (Q : R → Ev → Prop) (X : XW) (ps : List (D × D)) (h : Γ[i]? = some (.sh (.dict ps))) :
    wLcK i vs g t w Γ Q X = ((∀ p ∈ ps, fltP p.2) ∧ okW (ΓK Γ i ps) vs ∧ lcW vs g t w (fun acc _ => (∀ e ∈ acc, fltP e) ∧ Q (.ow (.list acc)) Γ) (ps.map (·.1)) [] (wipeE (ΓK Γ i ps) vs)) := by
  unfold wLcK
  rw [h]
def nmI : It → Str
  | .bar m => m
  | .mark m => m
  | .rep m _ => m
theorem ok_nmI : ∀ {l : List It} {ms : List Str} {it : It}, ok ms l → it ∈ l → nameB (nmI it) = true
  | .bar n :: r, ms, it, h, hm => by
    rcases List.mem_cons.mp hm with rfl | hm
    · exact h.1
    · exact ok_nmI h.2 hm
  | .mark n :: r, ms, it, h, hm => by
    rcases List.mem_cons.mp hm with rfl | hm
    · exact h.1
    · exact ok_nmI h.2.2 hm
  | .rep n c :: r, ms, it, h, hm => by
    rcases List.mem_cons.mp hm with rfl | hm
    · exact h.1
    · exact ok_nmI h.2.2.2 hm
end SC

set_option Elab.async false
set_option linter.all false
set_option maxRecDepth 100000
namespace SC
open PySem L2 VL

section
variable {l : List It} {n : Nat}
end
end SC

set_option Elab.async false
set_option linter.all false
set_option maxRecDepth 100000
namespace SC
open PySem L2 VL

def entD (q : Nat × Int) : D := .tuple [.int (q.1 : Int), .int q.2]
def aD (a : Act) : List D := a.map entD
end SC

set_option Elab.async false
set_option linter.all false
set_option maxRecDepth 100000
namespace SC
open PySem L2 VL

end SC

set_option Elab.async false
set_option linter.all false
set_option maxRecDepth 100000
namespace SC
open PySem L2 VL

end SC

set_option Elab.async false
set_option linter.all false
set_option maxRecDepth 100000
namespace SC
open PySem L2 VL

theorem eqvAll_strs : ∀ a b : List Str, PyData.eqvAll (a.map .str) (b.map .str) = decide (a = b)
  | [], [] => by simp [PyData.eqvAll]
  | [], _ :: _ => by simp [PyData.eqvAll]
  | _ :: _, [] => by simp [PyData.eqvAll]
  | x :: a, y :: b => by
    rw [List.map_cons, List.map_cons, PyData.eqvAll, eqvAll_strs a b, eqv_str]
    by_cases h : x = y
    · subst h; simp
    · simp [h]
theorem eqv_strs (a b : List Str) : PyData.eqv (.list (a.map .str)) (.list (b.map .str)) = decide (a = b) := by
  rw [PyData.eqv]
  exact eqvAll_strs a b
end SC

set_option Elab.async false
set_option linter.all false
set_option maxRecDepth 100000
namespace SC
open PySem L2 VL

section
variable {l : List It}
end
theorem cut_takeG {l : List D} {p : Nat} : cutD l none (some (p : Int)) = l.take p := by
  unfold cutD
  rw [HT.sIx_nat]
  simp [HT.sIx]
  first | done | (rw [List.take_eq_take_iff]; omega)
theorem cut_dropG {l : List D} {p : Nat} : cutD l (some (p : Int)) none = l.drop p := by
  by_cases z : p ≤ l.length
  · exact cut_drop z
  · unfold cutD
    rw [HT.sIx_nat]
    have : HT.sIx l.length l.length none = l.length := by simp [HT.sIx]
    rw [this, List.drop_eq_nil_of_le (by omega : l.length ≤ p)]
    rw [List.take_eq_nil_iff]
    omega
end SC

set_option Elab.async false
set_option linter.all false
set_option maxRecDepth 100000
namespace VL
open PySem PySem.Spec L2 PyProof.Rows
def dct (xs : List Str) : Nat → Nat
  | 0 => 0
  | i + 1 => if (xs.take i).any (· == xs.getD i Str.empty) = true then dct xs i else dct xs i + 1
theorem dct_le (xs : List Str) : ∀ i, dct xs i ≤ i
  | 0 => Nat.le_refl _
  | i + 1 => by
    have := dct_le xs i
    unfold dct
    split <;> omega
section
variable {prog : Program} {w : World} {A : Around} {R : Result → Shared → Prop} {I : Addr} {fp wr : List Addr} {G : Array GenState → Array GenState → Prop} {n : Nat} {P : Nat → Value → Prop} {St : Nat → Shared → Prop}
theorem loop_strs (W : WalksS prog w A.in1 I fp wr G n P St) (S : Addr) (hSf : S ∉ fp) (xs : List Str) (hsz : xs.length = n) (hn1 : n + 1 < scanBound)
    (hval : ∀ i v, P i v → ∃ t, v = .str (xs.getD i Str.empty) t) :
    ∀ (k i : Nat) (s : Shared), n - i = k → i ≤ n → St i s →
      s.heap.SetOf (PySem.strKind prog w) S (fun k' => (xs.take i).any (· == k')) (dct xs i) →
      (∀ s', Moved (S :: wr) G s s' → s'.heap.SetOf (PySem.strKind prog w) S (fun k' => (xs.take n).any (· == k')) (dct xs n) → R (.ok (.ret .none)) s') →
      codeAny (model prog w) A (.builtin "set.update.loop" ⟨[.ref S, .ref I], []⟩) R s := by
  have hSw : S ∉ wr := fun h => hSf (W.sub _ h)
  have hsub : ∀ b ∈ wr, b ∈ S :: wr := fun b hb => List.mem_cons_of_mem _ hb
  intro k
  induction k with
  | zero =>
    intro i s hk hi hst hS hR
    have hin : i = n := by omega
    subst hin
    refine codeAny_builtin PyProof.Rows.F.entry_set_update_loop ?_
    rw [Around.under_plainId PyProof.Rows.F.plain_set_update_loop _]
    show wpAny _ A.in1 (pyNext (.ref I) >>= _) _ _ s
    refine wpAny_bind (W.done s _ _ hst fun s' hm => ?_)
    show wpAny _ A.in1 (ret Value.none) _ _ s'
    exact wpAny_pure (hR s' (hm.mono hsub) (by
      obtain ⟨o, es, ep, t, ho, rest⟩ := hS
      exact ⟨o, es, ep, t, hm.heap S _ hSw ho, rest⟩))
  | succ k ih =>
    intro i s hk hi hst hS hR
    have hlt : i < n := by omega
    have hc := dct_le xs i
    refine codeAny_builtin PyProof.Rows.F.entry_set_update_loop ?_
    rw [Around.under_plainId PyProof.Rows.F.plain_set_update_loop _]
    show wpAny _ A.in1 (pyNext (.ref I) >>= _) _ _ s
    refine wpAny_bind (W.item i s _ _ hlt hst fun v s' hP hst' hm => ?_)
    obtain ⟨t, rfl⟩ := hval i v hP
    have hS' : s'.heap.SetOf (PySem.strKind prog w) S (fun k' => (xs.take i).any (· == k')) (dct xs i) := by
      obtain ⟨o, es, ep, tb, ho, rest⟩ := hS
      exact ⟨o, es, ep, tb, hm.heap S _ hSw ho, rest⟩
    show wpAny _ A.in1 (holding [Value.str (xs.getD i Str.empty) t] (setAdd S (.str (xs.getD i Str.empty) t)) >>= _) _ _ s'
    refine wpAny_bind (wpAny_holding ?_)
    unfold setAdd
    refine wpAny_holding ?_
    refine wpAny_bind ((PySem.strKind prog w).pyHash (k := xs.getD i Str.empty) (strKind_is _ _ _ _) ?_)
    refine wpAny_setAddHashed_of (knd := PySem.strKind prog w) (s := { s' with toks := s'.toks + 1 }) (strKind_is _ _ _ _) rfl hS' (by omega) fun h' hsb hS2 => ?_
    have hSi : h'.SetOf (PySem.strKind prog w) S (fun k' => (xs.take (i + 1)).any (· == k')) (dct xs (i + 1)) := by
      refine SetOf_congr hS2 (fun k' => ?_) rfl
      have e : xs[i]? = some (xs.getD i Str.empty) := by rw [List.getD_eq_getElem?_getD, List.getElem?_eq_getElem (by omega)]; rfl
      rw [List.take_succ, e]
      simp only [Option.toList_some, List.any_append, List.any_cons, List.any_nil, Bool.or_false]
      congr 1
      by_cases e : k' = xs.getD i Str.empty
      · rw [decide_eq_true e, e]; simp
      · rw [decide_eq_false e]
        exact (beq_eq_false_iff_ne.mpr fun z => e z.symm).symm
    refine wpAny_pure ⟨plainId_quiet PyProof.Rows.F.plain_set_update_loop _, ih (i + 1) _ (by omega) hlt (W.frame _ s' _ _ hst' (Nat.le_succ _) fun b hb o e => ?_) hSi fun s'' hm'' hS'' => ?_⟩
    · rw [hsb.2 b (fun h : b = S => hSf (by rw [← h]; exact hb))]; exact e
    · refine hR s'' (Moved.trans W.gtrans ((hm.mono hsub).then_heap (Nat.le_succ _) fun b o hb e => ?_) hm'') hS''
      rw [hsb.2 b (fun h : b = S => hb (by rw [h]; exact List.mem_cons_self))]; exact e
end
section
variable {P : Program} {w : World} {A : Around} {E : Value → Shared → Prop} {s : Shared}
abbrev SDone (P : Program) (w : World) (s : Shared) (xs : List Str) (h' : Heap) : Prop :=
  h'.SetOf (PySem.strKind P w) s.heap.objs.size (fun k' => (xs.take xs.length).any (· == k')) (dct xs xs.length) ∧ ∀ b o, s.heap.get? b = some o → h'.get? b = some o
set_option maxHeartbeats 4000000 in
theorem call_set_strs {l : Addr} {its : Array Value} (xs : List Str) {Q : Value → Shared → Prop} (hh : A.handled = none) (hl : s.heap.IsList l its) (hit : StrsAre its.toList xs) (hb : xs.length + 1 < scanBound)
    (q : ∀ h' tk, SDone P w s xs h' → Q (.ref s.heap.objs.size) { s with heap := h', toks := tk }) :
    wpAny (model P w) A (call (.type "set") [.ref l]) Q E s := by
  have hsz : its.size = xs.length := by
    have e := StrsAre.len_eq hit
    rwa [Array.length_toList] at e
  have hlS : l < s.heap.objs.size := let ⟨_, e, _⟩ := hl; Heap.lt_size e
  obtain ⟨mc, mt, hm⟩ := F.called_set.mro
  have made := F.called_set.made
  have subs := F.called_set.sub
  refine wpAny_call (codeAny_of_tree (show wpAny _ _ (callAny (.type "set") _) _ _ _ from ?_))
  refine wpAny_pure ⟨Code.quiet_builtin _ (by decide +kernel), codeAny_builtin F.entry_type_call ?_⟩
  rw [Around.under_plain (weight_type_call_type "set" [.ref l] []) rfl]
  have n1 := F.called_set.notType
  have n2 := F.called_set.canCreate
  have n3 := F.typeCall_set_1 (.ref l)
  repeat (any_goals (first | assumption | wp_step))
  refine codeAny_mono (code_set_led1 (.ref l) (E := E) (Q₁ := fun u t => u = .ref s.heap.objs.size ∧ t = { s with heap := nuHeap w s }) ⟨rfl, rfl⟩) fun r t hr => ?_
  cases r with
  | error e => exact hr
  | ok fl =>
    cases fl with
    | ret u =>
      obtain ⟨rfl, rfl⟩ := hr
      have at0 : (nuHeap w s).get? s.heap.objs.size = some (nuSet w) := Heap.get?_push_size _ rfl
      have ty : Shared.TypeIs { s with heap := nuHeap w s } (.ref s.heap.objs.size) "set" := ⟨_, at0, rfl⟩
      have i1 := F.called_set.init.lookup
      have i2 := F.called_set.init.bind (.ref s.heap.objs.size)
      repeat (any_goals (first | assumption | wp_step))
      refine codeAny_mono (codeAny_call_builtin (R := wants (fun u t => u = .none ∧ ∃ h' tk, t = { s with heap := h', toks := tk } ∧ SDone P w s xs h') E) F.called_set.init.plain F.entry_set_init (check_set_init_1 ty ?_)) fun r2 t2 hr2 => ?_
      · obtain ⟨⟨k1, k2, k3, k4⟩, hol, hcl, nl, hdl⟩ := hl
        dsimp only at hcl hdl
        subst hcl
        subst hdl
        have at1 := Heap.get?_push_of_some (nuSet w) hol
        have w1 := F.sub_list_set
        have w2 := F.sub_list_frozenset
        have w3 : (Value.type "list" == Value.type "dict") = false := by decide
        have li : (nuHeap w s).IsList l its := ⟨_, at1, rfl, nl, rfl⟩
        have i0 : (nuHeap w s).objs.size = s.heap.objs.size + 1 := Heap.size_push ..
        unfold Builtin.«set.__init__» noKeywords Builtin.Frozenset.updateFrom
        generalize hgo : pyIter = go
        wp_walk
        subst hgo
        refine wpAny_pyIter_list li (wpAny_bind (wpAny_runValue ?_))
        have hn : A.in1.in1.in1.handled = none := by simp [hh]
        have ne1 : l ≠ (nuHeap w s).objs.size := Nat.ne_of_lt (by rw [i0]; exact Nat.lt_succ_of_lt hlS)
        have out : s.heap.objs.size ∉ [(nuHeap w s).objs.size, l] := by
          simp only [List.mem_cons, List.not_mem_nil, or_false, not_or]
          exact ⟨Nat.ne_of_lt (by rw [i0]; exact Nat.lt_succ_self _), Nat.ne_of_gt hlS⟩
        have val : ∀ (i : Nat) (v : Value), its[i]? = some v → ∃ t, v = .str (xs.getD i Str.empty) t := fun i v hv => SS.strs_at hit i v (by rw [Array.getElem?_toList]; exact hv)
        refine loop_strs ((Walks.list hn _ l ne1 its).toS) s.heap.objs.size out xs hsz.symm (by rw [hsz]; exact hb) val (its.size - 0) 0 _ (by omega) (Nat.zero_le _) ⟨⟨_, Heap.get?_push_size _ rfl, rfl, rfl⟩, li.push _⟩ ?st ?fin
        case st => exact SetOf_congr ((setObjOf_fresh (knd := PySem.strKind P w) _).setOf (Heap.get?_push_of_some _ at0) (by unfold scanBound; omega)) (fun _ => rfl) rfl
        case fin =>
          intro t3 mv hS
          obtain ⟨h3, g3, d3, tk3, os3⟩ := t3
          cases (show g3 = s.gens from mv.gens)
          cases (show d3 = s.drawn from mv.drawn)
          cases (show os3 = s.os from mv.os)
          show wpAny _ _ _ _ _ _
          refine wpAny_pure ?_
          show wpAny _ _ (ret Value.none) _ _ _
          refine wpAny_pure ⟨rfl, h3, tk3, rfl, by rw [hsz] at hS; exact hS, fun b o e => ?_⟩
          have hb0 : b < s.heap.objs.size := Heap.lt_size e
          refine mv.heap b o ?_ (Heap.get?_push_of_some _ (Heap.get?_push_of_some _ e))
          simp only [List.mem_cons, List.not_mem_nil, or_false, not_or]
          exact ⟨Nat.ne_of_lt hb0, Nat.ne_of_lt (by rw [i0]; exact Nat.lt_succ_of_lt hb0)⟩
      · cases r2 with
        | error e => exact hr2
        | ok f2 =>
          cases f2 with
          | ret u =>
            obtain ⟨rfl, h3, tk3, rfl, dn⟩ := hr2
            repeat (any_goals (first | assumption | wp_step))
            exact q _ _ dn
          | _ => exact hr2.elim
    | _ => exact hr.elim
end
section
variable {X : Cx} {G : Gb} {W : WX}
def tLnS (K : Fg) (ta : TE) : TE := fun σ H Q => ta σ H fun x H1 => ∃ l, ∃ xs : List Str, x = .ref l ∧ SqL K H1 l (xs.map V.str) ∧ xs.length ≤ 4000 ∧ Q (.int ((dct xs xs.length : Nat) : Int)) H1
theorem pe_lnS {a : Expr} {ta : TE} {p p2 q pos : Pos} (hc : X.calm = true) (hg : Gl X "len") (hm : X.mg "len" = none) (hg2 : Gl X "set") (hm2 : X.mg "set" = none) (ha : PE X a ta)
    (na : starEach [a] X.env = (false, eval a X.env) :: starEach [] X.env := by rfl) : PE X (.Call (.Name "len" p) [.Call (.Name "set" p2) [a] [] q] [] pos) (tLnS X.K ta) := by
  refine ⟨fun pins s σ H Q I h => ?_⟩
  refine Call_ (ld_blt I hg hm boot_len ?_)
  refine PyProof.Rows.callWith_builtin1 (PyProof.Rows.args_cons ?_ rfl) rfl rfl
  refine Call_ (ld_blt I hg2 hm2 boot_set ?_)
  refine PyProof.Rows.callWith_type1 (PyProof.Rows.args_cons (thn (ha.run pins s σ H _ I h) fun v s1 ⟨x, H1, I1, r1, q1⟩ => PyProof.Rows.args_nil ?_) na) na rfl
  obtain ⟨l, xs, rfl, hq, h1, q1⟩ := q1
  cases r1
  obtain ⟨its, r, pl, hz⟩ := I1.list hq
  refine call_set_strs xs (I1.ok.hd hc) pl.isList (by simpa using strsAre_of r) (by unfold scanBound; omega) fun h' tk dn => ?_
  refine PyProof.Rows.args_nil ?_
  obtain ⟨⟨o, es, ep, t, ho, hex, hd, _, _, _, hf, hn⟩, hk⟩ := dn
  have I2 : Inv X pins σ H1 { s1 with heap := h', toks := tk } := I1.kept hk
  have hle := dct_le xs xs.length
  exact call_len_set ho hex hd hf (by rw [hn]; omega) ⟨.int _, H1, I2.tok _, ⟨_, by rw [hn]⟩, q1⟩
def oLnS : Op1 := fun d k => isL d fun l => ∃ xs : List Str, l = xs.map .str ∧ xs.length ≤ 4000 ∧ k (.sh (.int ((dct xs xs.length : Nat) : Int)))
theorem sim_lnS {te : TE} {we : WE} (he : SimE G W te we) : SimE G W (tLnS G.K te) (wCB (o1 oLnS) (wCons we wNil)) := by
  intro C Hi σ H Γ Q Qd Xd c hw hQ hX
  refine he C Hi σ H Γ _ _ Xd c hw (fun v1 r1 H1 Hi1 Γ1 e1 o1 q1 => ?_) hX
  obtain ⟨Hi2, e2, c2, h2⟩ := o1.hold
  have q1 : rdW r1 Γ1 fun d => oLnS d fun r => Qd r Γ1 := q1
  obtain ⟨d, b1, q2⟩ := h2.read c2 q1
  obtain ⟨l, rfl, xs, rfl, hl, q3⟩ := isL_inv q2
  obtain ⟨p, vs, rfl, s1, rr⟩ := b1.list c2.imm
  exact ⟨p, xs, rfl, SqL.of (by rw [s1, reps_strs rr]), hl, hQ _ _ _ Hi2 Γ1 (e1.trans e2) (out_int c2 _) q3⟩
theorem de_lnS {a : Expr} {ta : TE} {wa : WE} {p p2 q pos : Pos} (hK : X.K = G.K) (hc : X.calm = true) (hm : X.mg "len" = none) (hm2 : X.mg "set" = none) (ha : DE X G W a ta wa) (hg : Gl X "len" := by rfl) (hg2 : Gl X "set" := by rfl)
    (s1 : starEach [a] X.env = (false, eval a X.env) :: starEach [] X.env := by rfl) :
    DE X G W (.Call (.Name "len" p) [.Call (.Name "set" p2) [a] [] q] [] pos) (tLnS G.K ta) (wCB (o1 oLnS) (wCons wa wNil)) :=
  ⟨by rw [← hK]; exact pe_lnS hc hg hm hg2 hm2 ha.pe s1, sim_lnS ha.sim⟩
@[simp ↓] theorem ev_lnS (xs : List Str) (k : R → Prop) : oLnS (.list (xs.map .str)) k = (xs.length ≤ 4000 ∧ k (.sh (.int ((dct xs xs.length : Nat) : Int)))) := by
  refine propext ⟨?_, fun h => ⟨xs, rfl, h⟩⟩
  rintro ⟨ys, e, h⟩
  have inj : ∀ {a b : List Str}, a.map PyData.str = b.map PyData.str → a = b := by
    intro a
    induction a with
    | nil => intro b e; cases b with
      | nil => rfl
      | cons x b => simp at e
    | cons x a ih => intro b e; cases b with
      | nil => simp at e
      | cons y b =>
        simp only [List.map_cons, List.cons.injEq, PyData.str.injEq] at e
        rw [e.1, ih e.2]
  rw [inj e]
  exact h
theorem dct_nodup : ∀ (xs : List Str) (i : Nat), i ≤ xs.length → (dct xs i = i ↔ (xs.take i).Nodup)
  | xs, 0, _ => by simp [dct]
  | xs, i + 1, hi => by
    have ih := dct_nodup xs i (by omega)
    have hle := dct_le xs i
    have e : xs[i]? = some (xs.getD i Str.empty) := by rw [List.getD_eq_getElem?_getD, List.getElem?_eq_getElem (by omega)]; rfl
    rw [List.take_succ, e]
    generalize xs.getD i Str.empty = y at e
    have hd : dct xs (i + 1) = if (xs.take i).any (· == y) = true then dct xs i else dct xs i + 1 := by
      show (if (xs.take i).any (· == xs.getD i Str.empty) = true then dct xs i else dct xs i + 1) = _
      rw [List.getD_eq_getElem?_getD, e]
      rfl
    rw [hd]
    have ha : (xs.take i).any (· == y) = true ↔ y ∈ xs.take i := by
      rw [List.any_eq_true]
      exact ⟨fun ⟨z, h1, h2⟩ => by rw [← eq_of_beq h2]; exact h1, fun h => ⟨y, h, by simp⟩⟩
    have hn : (xs.take i ++ (some y).toList).Nodup ↔ (xs.take i).Nodup ∧ y ∉ xs.take i := by
      rw [Option.toList_some, List.nodup_append]
      simp only [List.nodup_cons, List.not_mem_nil, not_false_eq_true, List.nodup_nil, true_and, List.mem_singleton, forall_eq]
      exact ⟨fun h => ⟨h.1, fun hy => h.2 y hy rfl⟩, fun h => ⟨h.1, fun z hz e => h.2 (e ▸ hz)⟩⟩
    rw [hn]
    by_cases hy : y ∈ xs.take i
    · rw [if_pos (ha.mpr hy)]
      exact ⟨fun h => by omega, fun h => absurd hy h.2⟩
    · rw [if_neg (fun h => hy (ha.mp h))]
      exact ⟨fun h => ⟨ih.mp (by omega), hy⟩, fun h => by rw [ih.mpr h.1]⟩
end
end VL

set_option Elab.async false
set_option linter.all false
set_option maxRecDepth 100000
namespace VL
open PySem L2 RZ
section
variable {Hi H : Hp}
theorem Items.zipT {K : Fg} {a b : Addr} {xs ys : List V} {ds es : List D} (h : SqT K Hi a xs) (r : Reps K Hi xs ds) (h2 : SqT K Hi b ys) (r2 : Reps K Hi ys es) : Items K Hi (ItzT K a b) (List.zipWith (fun x y => .tuple [x, y]) ds es) where
  stop := fun Hi' H i e k hi => ⟨xs, ys, (e.trans k).sqT h, (e.trans k).sqT h2, by
    have := r.length
    have := r2.length
    simp at hi
    omega⟩
  go := fun Hi' H i e k hi => by
    rw [List.length_zipWith] at hi
    obtain ⟨v, q1, _⟩ := r.get (List.getElem?_eq_getElem (show i < ds.length by omega))
    obtain ⟨w, q2, _⟩ := r2.get (List.getElem?_eq_getElem (show i < es.length by omega))
    exact ⟨xs, ys, v, w, (e.trans k).sqT h, (e.trans k).sqT h2, q1, q2⟩
  yld := fun Hi' H i x H' d e k hd y => by
    obtain ⟨T, x1, x2, rfl, hT, rfl, y1, y2⟩ := y
    rw [List.getElem?_zipWith] at hd
    cases q1 : ds[i]? with
    | none => rw [q1] at hd; cases hd
    | some d1 =>
      cases q2 : es[i]? with
      | none => rw [q1, q2] at hd; cases hd
      | some d2 =>
        rw [q1, q2] at hd
        cases hd
        obtain ⟨v, z1, z2⟩ := r.get q1
        obtain ⟨w, z3, z4⟩ := r2.get q2
        have := y1 xs ((e.trans k).sqT h)
        rw [z1] at this; cases this
        have := y2 ys ((e.trans k).sqT h2)
        rw [z3] at this; cases this
        exact yld_tup k hT (.cons (z2.mono e) (.one (z4.mono e)))
end
def wiZA (wa : WA) : WI := fun Γ Q X => wa Γ (fun rs Γ1 => frAll rs Γ1 fun ds Γ2 => match ds with
  | [.list l, .list m] => Q (List.zipWith (fun x y => .tuple [x, y]) l m) Γ2
  | [.tuple l, .tuple m] => Q (List.zipWith (fun x y => .tuple [x, y]) l m) Γ2
  | _ => False) X
section
variable {G : Gb} {W : WX}
theorem simi_zipA {t : TA} {w : WA} (h : SimA G W t w) : SimI G W (iZipA G.K t) (wiZA w) := by
  intro C Hi σ H Γ R Qd Xd c hw hR hX
  refine h C Hi σ H Γ _ _ Xd c hw (fun vs rs H1 Hi1 Γ1 e1 c1 h1 q1 => ?_) hX
  obtain ⟨ds, Hi2, Γ2, e2, c2, rp, q2⟩ := h1.share (Ext.refl _) c1 q1
  split at q2
  · rename_i l m
    cases rp with
    | cons r1 rp =>
      cases rp with
      | cons r2 rp =>
        cases rp
        cases r1 with
        | lst s1 p1 =>
          cases r2 with
          | lst s2 p2 => exact ⟨_, _, _, _, rfl, .inl ⟨SqL.of (c2.imm _ _ s1), SqL.of (c2.imm _ _ s2), hR _ _ H1 Hi2 Γ2 (e1.trans e2) c2 (Items.zip (SqL.of s1) p1 (SqL.of s2) p2) q2⟩⟩
  · rename_i l m
    cases rp with
    | cons r1 rp =>
      cases rp with
      | cons r2 rp =>
        cases rp
        cases r1 with
        | tup s1 p1 =>
          cases r2 with
          | tup s2 p2 => exact ⟨_, _, _, _, rfl, .inr ⟨SqT.of (c2.imm _ _ s1), SqT.of (c2.imm _ _ s2), hR _ _ H1 Hi2 Γ2 (e1.trans e2) c2 (Items.zipT (SqT.of s1) p1 (SqT.of s2) p2) q2⟩⟩
  · exact q2.elim
end
section
variable {X : Cx} {G : Gb} {W : WX} {a b : Expr} {t : TA} {w : WA} {p pos p2 : Pos}
theorem di_zipA {kk : Nat} {elts : List Expr} (hK : X.K = G.K) (hm : X.mg "zip" = none) (h : DA X G W [a, b] t w) (hg : Gl X "zip" := by rfl) (hs : starEach [a, b] X.env = (false, eval a X.env) :: starEach [b] X.env := by rfl) (hpl : (backTo pos (starEach [b] X.env)).any (·.1) = false := by rfl) :
    DI X G W (.Tuple elts kk p2) (.Call (.Name "zip" p) [a, b] [] pos) (iZipA G.K t) (wiZA w) := ⟨by rw [← hK]; exact pi_zipA hg hm h.pe hs hpl, simi_zipA h.sim⟩
end
@[simp ↓] theorem ev_wiZA (wa : WA) (Γ : Ev) (Q : List PyData → Ev → Prop) (X : XW) : wiZA wa Γ Q X = (wa Γ (fun rs Γ1 => frAll rs Γ1 fun ds Γ2 => match ds with
  | [.list l, .list m] => Q (List.zipWith (fun x y => .tuple [x, y]) l m) Γ2
  | [.tuple l, .tuple m] => Q (List.zipWith (fun x y => .tuple [x, y]) l m) Γ2
  | _ => False) X) := rfl
end VL

set_option Elab.async false
set_option linter.all false
set_option maxRecDepth 100000
namespace SC
open PySem L2 VL
def bN : List It → List Str
  | [] => []
  | .bar n :: r => n :: bN r
  | .mark _ :: r => bN r
  | .rep _ _ :: r => bN r
theorem bN_len : ∀ r : List It, (bN r).length ≤ r.length
  | [] => Nat.le_refl _
  | .bar m :: r => by have := bN_len r; simp [bN]; omega
  | .mark m :: r => by have := bN_len r; simp [bN]; omega
  | .rep m c :: r => by have := bN_len r; simp [bN]; omega
theorem bN_app : ∀ l r : List It, bN (l ++ r) = bN l ++ bN r
  | [], _ => rfl
  | .bar m :: l, r => by show m :: bN (l ++ r) = _; rw [bN_app l r]; rfl
  | .mark m :: l, r => bN_app l r
  | .rep m c :: l, r => bN_app l r
def itMark : It → Bool
  | .mark _ => true
  | _ => false
def itRep : It → Bool
  | .rep _ _ => true
  | _ => false
def adjL : List It → List Bool
  | a :: b :: r => (itMark a && itRep b) :: adjL (b :: r)
  | _ => []
def adj (l : List It) : Bool := (adjL l).any id
def smB (l : List It) : Bool := decide (dct (bN l) (bN l).length = (bN l).length) && !adj l
theorem lc_bars (s0 : Sl) (k : List D → Ev → Prop) : ∀ (r : List It) (acc : List D), acc.length + r.length ≤ 1000 → k (acc ++ (bN r).map .str) [s0, .no, .no, .no] →
    lcW [2] (wgName 2) (wT (wOp oEq (wOp oIx (wVar 2) (wC (.int 0))) (wC (.str "bar")))) (wOp oIx (wVar 2) (wC (.int 1))) k (sc r) acc [s0, .no, .no, .no]
  | [], acc, _, q => by simpa [lcW, sc, bN] using q
  | it :: r, acc, hl, q => by
    rw [List.length_cons] at hl
    have hz : acc.length < sizeLine := small (by omega)
    rw [show sc (it :: r) = it.d :: sc r from rfl, lcW]
    cases it with
    | bar n =>
      simp [It.d, sh_bar, eqv_str, wipeE]
      exact ⟨hz, lc_bars s0 k r _ (by simp; omega) (by simpa [bN] using q)⟩
    | mark n =>
      simp [It.d, sh_bar, sh_mark, eqv_str, mb, wipeE]
      exact lc_bars s0 k r acc (by omega) q
    | rep n c =>
      simp [It.d, sh_rep, sh_bar, eqv_str, rb, wipeE]
      exact lc_bars s0 k r acc (by omega) q
theorem lc_adj (s0 s1 : Sl) (k : List D → Ev → Prop) : ∀ (r : List It) (acc : List D), acc.length + r.length ≤ 1000 → k (acc ++ (adjL r).map .bool) [s0, s1, .no, .no] →
    lcW [2, 3] (wgTup 2 (wgCons (wgName 2) (wgCons (wgName 3) (wgNil)))) (wYes) (wAndV (wOp oEq (wOp oIx (wVar 2) (wC (.int 0))) (wC (.str "mark"))) (wOp oEq (wOp oIx (wVar 3) (wC (.int 0))) (wC (.str "repeat")))) k (List.zipWith (fun x y => .tuple [x, y]) (sc r) ((sc r).drop 1)) acc [s0, s1, .no, .no]
  | [], acc, _, q => by simpa [lcW, sc, adjL] using q
  | [a], acc, _, q => by simpa [lcW, sc, adjL] using q
  | a :: b :: r, acc, hl, q => by
    rw [List.length_cons, List.length_cons] at hl
    have hz : acc.length < sizeLine := small (by omega)
    have ih := fun acc' e => lc_adj s0 s1 k (b :: r) acc' e
    rw [show List.zipWith (fun x y => PyData.tuple [x, y]) (sc (a :: b :: r)) ((sc (a :: b :: r)).drop 1) = .tuple [a.d, b.d] :: List.zipWith (fun x y => .tuple [x, y]) (sc (b :: r)) ((sc (b :: r)).drop 1) from rfl, lcW]
    have fin : ∀ z : Bool, z = (itMark a && itRep b) → acc.length < sizeLine ∧ lcW [2, 3] (wgTup 2 (wgCons (wgName 2) (wgCons (wgName 3) (wgNil)))) (wYes) (wAndV (wOp oEq (wOp oIx (wVar 2) (wC (.int 0))) (wC (.str "mark"))) (wOp oEq (wOp oIx (wVar 3) (wC (.int 0))) (wC (.str "repeat")))) k (List.zipWith (fun x y => .tuple [x, y]) (sc (b :: r)) ((sc (b :: r)).drop 1)) (acc ++ [.bool z]) [s0, s1, .no, .no] := fun z e =>
      ⟨hz, ih _ (by simp; omega) (by rw [e]; simpa [adjL] using q)⟩
    generalize hZ : List.zipWith (fun x y => PyData.tuple [x, y]) (sc (b :: r)) ((sc (b :: r)).drop 1) = Z at *
    cases a with
    | bar n =>
      simp [It.d, sh_bar, sh_mark, eqv_str, bm, wipeE]
      exact fin false rfl
    | rep n c =>
      simp [It.d, sh_rep, sh_mark, eqv_str, rm, wipeE]
      exact fin false rfl
    | mark n =>
      cases b with
      | bar m =>
        simp [It.d, sh_bar, sh_mark, sh_rep, eqv_str, br, mm, wipeE]
        exact fin false rfl
      | mark m =>
        simp [It.d, sh_bar, sh_mark, sh_rep, eqv_str, mr, mm, wipeE]
        exact fin false rfl
      | rep m c =>
        simp [It.d, sh_bar, sh_mark, sh_rep, eqv_str, mm, wipeE]
        exact fin true rfl
def fs_has_simple_form : FS := fun io ds Q _ => io = none ∧ ∃ l : List It, ds = [.list (sc l)] ∧ l.length ≤ 1000 ∧ Q (.sh (.bool (smB l))) none
def w_has_simple_form : WS := wSeq (wSet 1 (wLc [2] (wiL (wVar 0)) (wgName 2) (wT (wOp oEq (wOp oIx (wVar 2) (wC (.int 0))) (wC (.str "bar")))) (wOp oIx (wVar 2) (wC (.int 1))))) (wSeq (wIfS (wT (wOp (oIB fun i j => decide (i < j)) (wCB (o1 oLnS) (wCons (wVar 1) (wNil))) (wCB (o1 oLen) (wCons (wVar 1) (wNil))))) (wRet (wC (.bool false))) (wNext)) (wRet (wNotV (wCB (o1 oAny) (wCons (wLc [2, 3] (wiZA (wCons (wVar 0) (wCons (wSlL (wVar 0) (wPart (wC (.int 1))) (wNoP)) (wNil)))) (wgTup 2 (wgCons (wgName 2) (wgCons (wgName 3) (wgNil)))) (wYes) (wAndV (wOp oEq (wOp oIx (wVar 2) (wC (.int 0))) (wC (.str "mark"))) (wOp oEq (wOp oIx (wVar 3) (wC (.int 0))) (wC (.str "repeat"))))) (wNil))))))
theorem ev_any (bs : List Bool) (k : R → Prop) (q : k (.sh (.bool (bs.any id)))) : oAny (.list (bs.map .bool)) k := ⟨bs, rfl, q⟩
theorem fv_has_simple_form : FnV fs_has_simple_form 4 w_has_simple_form := by
  rintro io ds Q X ⟨rfl, l, rfl, hl, q⟩
  show w_has_simple_form [.sh (.list (sc l)), .no, .no, .no] _ _
  simp [w_has_simple_form, ev_wLc, okW, wipeE]
  refine lc_bars _ _ l [] (by simp; omega) ?_
  have hb := bN_len l
  have hd := dct_le (bN l) (bN l).length
  simp [restE]
  refine ⟨by omega, ?_⟩
  by_cases hlt : dct (bN l) (bN l).length < (bN l).length
  · rw [if_pos (by omega)]
    have : smB l = false := by unfold smB; rw [decide_eq_false (by omega)]; rfl
    rw [this] at q
    exact q
  · rw [if_neg (by omega)]
    have t1 : cutD (sc l) (some 1) none = (sc l).drop 1 := cut_dropG (p := 1)
    rw [t1]
    refine lc_adj _ _ _ l [] (by simp; omega) ?_
    refine ev_any _ _ ?_
    have : smB l = !(adjL l).any id := by unfold smB adj; rw [decide_eq_true (by omega)]; rfl
    rw [this] at q
    simp [restE]
    exact q
end SC

set_option Elab.async false
set_option linter.all false
set_option maxRecDepth 100000
namespace VL
open PySem L2
section
variable {K : Fg} {H : Hp}
end
section
variable {X : Cx} {G : Gb} {W : WX}
def wDPop (i : Nat) (wk : WE) : WE := fun Γ Q X => owW i Γ fun d _ => isD d fun _ => wk Γ (fun rk Γ1 => rdW rk Γ1 fun kd => owW i Γ1 fun d f' => isD d fun ps => isK kd (match dget ps kd with
  | some v => Q (.sh v) (f' (.dict (ddrop ps kd)))
  | none => False)) X
@[simp ↓] theorem ev_wDPop (i : Nat) (wk : WE) (Γ : Ev) (Q : R → Ev → Prop) (X : XW) : wDPop i wk Γ Q X = owW i Γ fun d _ => isD d fun _ => wk Γ (fun rk Γ1 => rdW rk Γ1 fun kd => owW i Γ1 fun d f' => isD d fun ps => isK kd (match dget ps kd with
  | some v => Q (.sh v) (f' (.dict (ddrop ps kd)))
  | none => False)) X := rfl
end
end VL

set_option Elab.async false
set_option linter.all false
set_option maxRecDepth 100000
set_option pp.maxSteps 600
namespace L2
open PySem PySem.Spec PyProof.Rows
def tDUpd (td ty : TE) : TE := fun σ H Q => td σ H fun x H1 => ∃ a, x = .ref a ∧ IsD H1 a ∧ ty σ H1 fun y H2 => ∃ b kvs more, y = .ref b ∧ a ≠ b ∧ H2 a = some (.dK kvs) ∧ Rd H2 b (.dK more) ∧ kvs.length + more.length ≤ sizeLine ∧ Q .non (upd H2 a (.dK (mergeK kvs more)))
def tDUpdL (K : PySem.W.Frag) (td ty : TE) : TE := fun σ H Q => td σ H fun x H1 => ∃ a, x = .ref a ∧ IsD H1 a ∧ ty σ H1 fun y H2 => ∃ b kvs ps more, y = .ref b ∧ H2 a = some (.dK kvs) ∧ SqL K H2 b (ps.map V.ref) ∧ Paired (fun p kv => SqT K H2 p [kV kv.1, kv.2]) ps more ∧ kvs.length + more.length ≤ sizeLine ∧ Q .non (upd H2 a (.dK (mergeK kvs more)))
section
variable {X : Cx} {pins : List (Addr × Obj)} {σ : St} {H : Hp} {s : Shared} {a b : Addr} {kvs more : List (Key × V)} {A : Around} {E : Value → Shared → Prop}
theorem d_upd {Q : Value → Shared → Prop} (I : Inv X pins σ H s) (e : H a = some (.dK kvs)) (eb : Rd H b (.dK more)) (hne : a ≠ b) (hz : kvs.length + more.length ≤ sizeLine)
    (h : ∀ s', Inv X pins σ (upd H a (.dK (mergeK kvs more))) s' → Q .none s') : wpAny (model X.prog X.w) A (call (.builtin "dict.update") [.ref a, .ref b]) Q E s := by
  obtain ⟨z, hd, vs, rel, dd⟩ := dk_of I.hok e
  obtain ⟨z2, hd2, vs2, rel2, dd2⟩ := dk_rd I.hok eb
  refine call_meetsIn PySem.F.slot_dict_update dd.typeIs PySem.F.entry_dict_update (PySem.F.args_dict_update_2 _ _) (meets_dict_update (mixKind X.prog X.w) a b hne hd2) ⟨vs, vs2, dd, dd2, by rw [← rel.length, ← rel2.length]; exact hz, fun h' dd' _ hs => h _ ?_⟩
  have he : ∃ q, h'.get? a = some q := let ⟨q, _, _, hq, _⟩ := dd'; ⟨q, hq⟩
  exact d_write I (by rw [e]; exact True.intro) hs he (dk_new (Nat.le_trans (length_mergeK more kvs) hz) hd (rel2.merge rel) dd')
theorem d_updL {ps : List Addr} {Q : Value → Shared → Prop} (hh : A.handled = none) (I : Inv X pins σ H s) (e : H a = some (.dK kvs)) (eb : SqL X.K H b (ps.map V.ref)) (hp : Paired (fun p kv => SqT X.K H p [kV kv.1, kv.2]) ps more) (hz : kvs.length + more.length ≤ sizeLine)
    (h : ∀ s', Inv X pins σ (upd H a (.dK (mergeK kvs more))) s' → Q .none s') : wpAny (model X.prog X.w) A (call (.builtin "dict.update") [.ref a, .ref b]) Q E s := by
  obtain ⟨z, hd, vs, rel, dd⟩ := dk_of I.hok e
  obtain ⟨its, rv, pl, hz2⟩ := I.list eb
  have ei := refs_at rv
  subst ei
  obtain ⟨prs, rel2, hl, hpr⟩ := pairs_of I hp
  obtain ⟨o, n, ho, hc, hdo, hdat⟩ := pl
  obtain ⟨us, hus⟩ : ∃ us : List (Value × Value), us.length = prs.length ∧ ∀ (j : Nat) (q : Key × Value), prs[j]? = some q → ∃ u, us[j]? = some (u, q.2) ∧ keyIs q.1 u = true ∧ ∃ c, ps[j]? = some c ∧ IsTup s.heap c #[u, q.2] := by
    clear rel2
    have : ∀ (l : List (Key × Value)) (k : Nat), (∀ (j : Nat) (q : Key × Value), l[j]? = some q → ∃ (b : Addr) (u : Value), ps[k + j]? = some b ∧ IsTup s.heap b #[u, q.2] ∧ keyIs q.1 u = true) →
        ∃ us : List (Value × Value), us.length = l.length ∧ ∀ (j : Nat) (q : Key × Value), l[j]? = some q → ∃ u, us[j]? = some (u, q.2) ∧ keyIs q.1 u = true ∧ ∃ c, ps[k + j]? = some c ∧ IsTup s.heap c #[u, q.2] := by
      intro l
      induction l with
      | nil => intro k _; exact ⟨[], rfl, fun j q e => by simp at e⟩
      | cons p l ih =>
        intro k hq
        obtain ⟨b0, u0, e1, e2, e3⟩ := hq 0 p rfl
        obtain ⟨us, hl', hr⟩ := ih (k + 1) (fun j q e => by
          have := hq (j + 1) q (by simpa using e)
          rwa [show k + (j + 1) = k + 1 + j by omega] at this)
        refine ⟨(u0, p.2) :: us, by simp [hl'], fun j q e => ?_⟩
        cases j with
        | zero =>
          have : p = q := Option.some.inj e
          subst this
          exact ⟨u0, rfl, e3, b0, e1, e2⟩
        | succ j =>
          obtain ⟨u, f1, f2, c, f3, f4⟩ := hr j q (by simpa using e)
          exact ⟨u, by simpa using f1, f2, c, by rw [show k + (j + 1) = k + 1 + j by omega]; exact f3, f4⟩
    have h0 := this prs 0 (fun j q e => by
      have := hpr j q e
      rwa [Nat.zero_add])
    simpa using h0
  obtain ⟨hul, hu⟩ := hus
  have hnd : a ∉ b :: (List.range us.length).map (fun j => ps[j]?.getD b) := by
    have hla : ∀ c o, s.heap.get? c = some o → (o.cls = .type "list" ∨ o.cls = .type "tuple") → a ≠ c := fun c o e1 e2 e3 => by
      subst e3
      obtain ⟨o', ho', hT⟩ := dd.typeIs
      rw [e1] at ho'; cases ho'
      rcases e2 with e2 | e2 <;> rw [e2] at hT <;> exact absurd hT (by decide)
    intro hm
    rcases List.mem_cons.mp hm with rfl | hm
    · exact hla _ _ ho (.inl hc) rfl
    · obtain ⟨j, hj, e9⟩ := List.mem_map.mp hm
      have hj' : j < prs.length := by rw [← hul]; exact List.mem_range.mp hj
      obtain ⟨u, f1, f2, c, f3, f4⟩ := hu j _ (List.getElem?_eq_getElem hj')
      obtain ⟨o4, g4, c4, _⟩ := f4
      rw [f3] at e9
      exact hla _ _ g4 (.inr c4) e9.symm
  have hlm : prs.length = more.length := rel2.length.symm
  refine PySem.call_update_pairs (knd := mixKind X.prog X.w) (acc := vs) (kvs := prs) (PySem.PairArg.list b ((ps.map Value.ref).toArray) (fun j => ps[j]?.getD b) us) hh ⟨⟨o, n, ho, hc, hdo, hdat⟩, ?_⟩ hnd ?_ dd ?_ fun h' tk dd' hs => h _ ?_
  · refine ⟨by simp [hul, hl], fun j k v ej => ?_⟩
    have hj' : j < prs.length := by
      rw [← hul]; exact (List.getElem?_eq_some_iff.mp ej).1
    obtain ⟨u, f1, f2, c, f3, f4⟩ := hu j _ (List.getElem?_eq_getElem hj')
    rw [f1] at ej
    cases ej
    refine ⟨by simp [f3], .inl ?_⟩
    show s.heap.IsTuple (ps[j]?.getD b) _
    rw [f3]
    exact f4
  · refine ⟨hul.symm, fun j k v ej => ?_⟩
    have hj' : j < prs.length := by
      rw [← hul]; exact (List.getElem?_eq_some_iff.mp ej).1
    obtain ⟨u, f1, f2, _⟩ := hu j _ (List.getElem?_eq_getElem hj')
    have : (u, prs[j].2) = (k, v) := Option.some.inj (f1.symm.trans ej)
    cases this
    exact ⟨prs[j].1, List.getElem?_eq_getElem hj', f2⟩
  · rw [hul, ← rel.length, hlm]; exact hz
  · have he : ∃ q, h'.get? a = some q := let ⟨q, _, _, hq, _⟩ := dd'; ⟨q, hq⟩
    refine I.write (x := a) (e := a) (by rw [e]; exact True.intro) (.inl rfl) (fun b' q hb z => hs b' q hb (by simp) z) he (dk_new (Nat.le_trans (length_mergeK more kvs) hz) hd (rel2.merge rel) dd')
end
section
variable {X : Cx} {o e : Expr} {apos cpos : Pos} {td ty : TE}
theorem pe_dupd (ho : PE X o td) (he : PE X e ty) (m : M1 X o "update" apos e cpos) : PE X (.Call (.Attribute o "update" apos) [e] [] cpos) (tDUpd td ty) := by
  refine ⟨fun pins s σ H Q I h => ?_⟩
  refine wpAny_Call_method m.base m.few m.line PySem.F.plainAttrs_dict PySem.F.slot_dict_update PySem.F.type_dict_update (thn (ho.run pins s σ H _ I h) fun u s1 ⟨x, H1, I1, rx, a, ex, d, q1⟩ => ?_)
  subst ex
  obtain rfl : u = Value.ref a := rx
  obtain ⟨t1, t2, _⟩ := isD_at I1 d
  refine ⟨t1, t2, ?_⟩
  rw [m.trees]
  refine Calls.callWith_builtin rfl (Calls.evalArgs_plain (Calls.spliced_cons (thn (he.run pins s1 σ H1 _ I1 q1) fun iv s2 ⟨y, H2, I2, ry, b, kvs, more, ey, hne, ea, eb, hz, q2⟩ => Calls.spliced_nil ?_)))
  subst ey
  obtain rfl : iv = Value.ref b := ry
  exact d_upd I2 ea eb hne hz fun s3 I3 => ⟨.non, _, I3, rfl, q2⟩
theorem pe_dupdL (hcalm : X.calm = true) (ho : PE X o td) (he : PE X e ty) (m : M1 X o "update" apos e cpos) : PE X (.Call (.Attribute o "update" apos) [e] [] cpos) (tDUpdL X.K td ty) := by
  refine ⟨fun pins s σ H Q I h => ?_⟩
  refine wpAny_Call_method m.base m.few m.line PySem.F.plainAttrs_dict PySem.F.slot_dict_update PySem.F.type_dict_update (thn (ho.run pins s σ H _ I h) fun u s1 ⟨x, H1, I1, rx, a, ex, d, q1⟩ => ?_)
  subst ex
  obtain rfl : u = Value.ref a := rx
  obtain ⟨t1, t2, _⟩ := isD_at I1 d
  refine ⟨t1, t2, ?_⟩
  rw [m.trees]
  refine Calls.callWith_builtin rfl (Calls.evalArgs_plain (Calls.spliced_cons (thn (he.run pins s1 σ H1 _ I1 q1) fun iv s2 ⟨y, H2, I2, ry, b, kvs, ps, more, ey, ea, eb, hp, hz, q2⟩ => Calls.spliced_nil ?_)))
  subst ey
  obtain rfl : iv = Value.ref b := ry
  exact d_updL (I2.ok.hd hcalm) I2 ea eb hp hz fun s3 I3 => ⟨.non, _, I3, rfl, q2⟩
end
end L2
namespace VL
open PySem L2
def dupd (ps more : List (D × D)) : List (D × D) := more.foldl (fun acc p => dput acc p.1 p.2) ps
section
variable {K : Fg} {H : Hp}
theorem RepKV.upd (more : List (Key × V)) : ∀ (md : List (D × D)) (kvs : List (Key × V)) (ps : List (D × D)), RepKV K H more md → RepKV K H kvs ps → RepKV K H (mergeK kvs more) (dupd ps md) := by
  induction more with
  | nil =>
    intro md kvs ps h r
    cases h
    exact r
  | cons p more ih =>
    intro md kvs ps h r
    cases h with
    | cons h q =>
      rename_i k v d ps'
      exact ih ps' _ (dput ps (kD k) d) q (r.put h)
theorem Rep.isDct {v : V} {ps : List (D × D)} (r : Rep K H v (.dict ps)) : ∃ a kvs, v = .ref a ∧ Rd H a (.dK kvs) ∧ RepKV K H kvs ps := by
  cases r with
  | dct h q => exact ⟨_, _, rfl, h, q⟩
theorem Rep.isLst {v : V} {l : List D} (r : Rep K H v (.list l)) : ∃ a xs, v = .ref a ∧ H a = some (.lst xs) ∧ Reps K H xs l := by
  cases r with
  | lst h q => exact ⟨_, _, rfl, h, q⟩
end
section
variable {X : Cx} {G : Gb} {W : WX}
def wDUpd (i : Nat) (wa : WE) : WE := fun Γ Q X => owW i Γ fun d _ => isD d fun _ => wa Γ (fun ra Γ1 => frW ra Γ1 fun da Γ2 => isD da fun more => owW i Γ2 fun d f' => isD d fun ps => ps.length + more.length ≤ sizeLine ∧ Q (.sh .none) (f' (.dict (dupd ps more)))) X
def wDUpdL (i : Nat) (wa : WE) : WE := fun Γ Q X => owW i Γ fun d _ => isD d fun _ => wa Γ (fun ra Γ1 => frW ra Γ1 fun da Γ2 => isL da fun l => owW i Γ2 fun d f' => isD d fun ps => ∃ kvs : List (Key × D), l = kvs.map (fun p => .tuple [kD p.1, p.2]) ∧ ps.length + l.length ≤ sizeLine ∧ Q (.sh .none) (f' (.dict (dmerge kvs ps)))) X
theorem sim_dupd {ty : TE} {wa : WE} (i : Nat) (ha : SimE G W ty wa) : SimE G W (tDUpd (tVar i) ty) (wDUpd i wa) := by
  intro C Hi σ H Γ Q Qd Xd c hw hQ hX
  obtain ⟨d0, p, _, hp, ow0, hw, _⟩ := c.owned hw
  obtain ⟨l0, rfl, hw⟩ := isD_inv hw
  cases ow0 with
  | dct hl0 _ =>
    refine ⟨.ref p, hp, p, rfl, .inl ⟨_, .inl hl0⟩, ha C Hi σ H Γ _ _ Xd c hw (fun v1 r1 H1 Hi1 Γ1 e1 o1 q1 => ?_) hX⟩
    obtain ⟨da, Hi2, Γ2, e2, c2, ra, q2⟩ := o1.share q1
    obtain ⟨more, rfl, q4⟩ := isD_inv q2
    have ra0 := ra
    obtain ⟨b, mv, rfl, sb0, rb⟩ := ra.isDct
    have sb := c2.imm.rd sb0
    obtain ⟨d, p', f', hp', ow, q3, put⟩ := c2.owned q4
    rw [hp] at hp'; cases hp'
    obtain ⟨ps, rfl, hz, q3⟩ := isD_inv q3
    cases ow with
    | dct hl rl =>
      have hne : p ≠ b := by
        intro z
        subst z
        have c3 := put (.list []) (.lst []) (.lst upd_same .nil)
        have sb' := c3.imm.rd sb0
        rcases sb' with h | ⟨_, h⟩ <;> rw [upd_same] at h <;> cases h
      exact ⟨b, _, mv, rfl, hne, hl, sb, by rw [rl.length, rb.length]; exact hz, hQ .non (.sh .none) _ Hi2 _ (e1.trans e2) ⟨put _ _ (.dct upd_same (RepKV.upd _ _ _ _ rb rl)), .non⟩ q3⟩
theorem sim_dupdL {ty : TE} {wa : WE} (i : Nat) (ha : SimE G W ty wa) : SimE G W (tDUpdL G.K (tVar i) ty) (wDUpdL i wa) := by
  intro C Hi σ H Γ Q Qd Xd c hw hQ hX
  obtain ⟨d0, p, _, hp, ow0, hw, _⟩ := c.owned hw
  obtain ⟨l0, rfl, hw⟩ := isD_inv hw
  cases ow0 with
  | dct hl0 _ =>
    refine ⟨.ref p, hp, p, rfl, .inl ⟨_, .inl hl0⟩, ha C Hi σ H Γ _ _ Xd c hw (fun v1 r1 H1 Hi1 Γ1 e1 o1 q1 => ?_) hX⟩
    obtain ⟨da, Hi2, Γ2, e2, c2, ra, q2⟩ := o1.share q1
    obtain ⟨l, rfl, q4⟩ := isL_inv q2
    obtain ⟨b, xs, rfl, s10, r1⟩ := ra.isLst
    have s1 := c2.imm _ _ s10
    obtain ⟨d, p', f', hp', ow, q3, put⟩ := c2.owned q4
    rw [hp] at hp'; cases hp'
    obtain ⟨ps, rfl, q3⟩ := isD_inv q3
    obtain ⟨kvs, rfl, hz, q3⟩ := q3
    obtain ⟨pa, kvv, rfl, hpp, hm⟩ := pairs_rep c2.imm r1
    cases ow with
    | dct hl rl =>
      have hlen : kvv.length = kvs.length := by
        have h1 := hpp.length
        have h2 := r1.length
        simp at h2
        omega
      exact ⟨b, _, pa, kvv, rfl, hl, SqL.of s1, hpp, by rw [rl.length, hlen]; simpa using hz, hQ .non (.sh .none) _ Hi2 _ (e1.trans e2) ⟨put _ _ (.dct upd_same (hm _ _ rl)), .non⟩ q3⟩
theorem de_dupd {x : Str} {e : Expr} {te : TE} {we : WE} {apos pos p : Pos} (i : Nat) (he : DE X G W e te we) (hN : X.N[i]? = some x := by rfl) (hv : Vis X.env.scope x := by first | exact Or.inl rfl | exact Or.inr (Or.inl rfl) | exact Or.inr (Or.inr rfl)) (hd : (x == ("__debug__" : Str)) = false := by decide) (hcd : (x == ("__classdict__" : Str)) = false := by decide)
    (m1 : attributeBase (.Name x p) "update" X.env (eval (.Name x p) X.env) = eval (.Name x p) X.env := by rfl)
    (m2 : ((backTo pos (starEach [e] X.env)).all (fun x => !x.1) && (backToKw pos (keywordEach [] X.env)).all (fun x => x.1.isSome) && decide (([e] : List Expr).length + ([] : List Keyword).length + (if ([] : List Keyword).isEmpty then 0 else 1) < 30)) = true := by rfl)
    (m3 : (apos.endLine == pos.line) = true := by rfl) (m4 : backTo pos (starEach [e] X.env) = [(false, eval e X.env)] := by rfl) : DE X G W (.Call (.Attribute (.Name x p) "update" apos) [e] [] pos) (tDUpd (tVar i) te) (wDUpd i we) :=
  ⟨pe_dupd (pe_var hN hv hd hcd) he.pe ⟨m1, m2, m3, m4⟩, sim_dupd i he.sim⟩
theorem de_dupdL {x : Str} {e : Expr} {te : TE} {we : WE} {apos pos p : Pos} (hK : X.K = G.K) (hc : X.calm = true) (i : Nat) (he : DE X G W e te we) (hN : X.N[i]? = some x := by rfl) (hv : Vis X.env.scope x := by first | exact Or.inl rfl | exact Or.inr (Or.inl rfl) | exact Or.inr (Or.inr rfl)) (hd : (x == ("__debug__" : Str)) = false := by decide) (hcd : (x == ("__classdict__" : Str)) = false := by decide)
    (m1 : attributeBase (.Name x p) "update" X.env (eval (.Name x p) X.env) = eval (.Name x p) X.env := by rfl)
    (m2 : ((backTo pos (starEach [e] X.env)).all (fun x => !x.1) && (backToKw pos (keywordEach [] X.env)).all (fun x => x.1.isSome) && decide (([e] : List Expr).length + ([] : List Keyword).length + (if ([] : List Keyword).isEmpty then 0 else 1) < 30)) = true := by rfl)
    (m3 : (apos.endLine == pos.line) = true := by rfl) (m4 : backTo pos (starEach [e] X.env) = [(false, eval e X.env)] := by rfl) : DE X G W (.Call (.Attribute (.Name x p) "update" apos) [e] [] pos) (tDUpdL X.K (tVar i) te) (wDUpdL i we) :=
  ⟨pe_dupdL hc (pe_var hN hv hd hcd) he.pe ⟨m1, m2, m3, m4⟩, by rw [hK]; exact sim_dupdL i he.sim⟩
@[simp ↓] theorem ev_wDUpd (i : Nat) (wa : WE) (Γ : Ev) (Q : R → Ev → Prop) (X : XW) : wDUpd i wa Γ Q X = owW i Γ fun d _ => isD d fun _ => wa Γ (fun ra Γ1 => frW ra Γ1 fun da Γ2 => isD da fun more => owW i Γ2 fun d f' => isD d fun ps => ps.length + more.length ≤ sizeLine ∧ Q (.sh .none) (f' (.dict (dupd ps more)))) X := rfl
@[simp ↓] theorem ev_wDUpdL (i : Nat) (wa : WE) (Γ : Ev) (Q : R → Ev → Prop) (X : XW) : wDUpdL i wa Γ Q X = owW i Γ fun d _ => isD d fun _ => wa Γ (fun ra Γ1 => frW ra Γ1 fun da Γ2 => isL da fun l => owW i Γ2 fun d f' => isD d fun ps => ∃ kvs : List (Key × D), l = kvs.map (fun p => .tuple [kD p.1, p.2]) ∧ ps.length + l.length ≤ sizeLine ∧ Q (.sh .none) (f' (.dict (dmerge kvs ps)))) X := rfl
end
end VL

set_option Elab.async false
set_option linter.all false
set_option maxRecDepth 100000
set_option maxHeartbeats 1000000
namespace VL
open PySem PySem.Spec PyProof.Rows L2
end VL
namespace VL
open PySem PySem.W PySem.Calls PyProof.Rows HandSHeadRun
end VL

set_option Elab.async false
set_option linter.all false
set_option maxRecDepth 100000
namespace VL
open PySem L2

theorem takes0N {X : Cx} : L2N.Takes X (fun _ _ _ _ => False) := fun _ _ x => by
  obtain ⟨_, _, _, _, _, _, _, _, _, _, _, _, _, _, _, _, z⟩ := x
  exact z.elim
structure ExF (K : Fg) (mg : Str → Option Value) (ca : Str → Addr) (nm : Str) : Prop where
  g : mg nm = some (.ref (ca nm))
  e : PySem.W.excIn K (ca nm) He.veBase "ValueError.__new__" = true
  k : PySem.W.keepIn K (.ref (ca nm)) = true
  s : PySem.W.subIn K (.ref (ca nm)) (.type "BaseException") = some true
  t : PySem.W.typeIn K (.ref (ca nm)) = some (.type "type")
theorem ExF.of {K : Fg} {h : Heap} {mg : Str → Option Value} {nm : Str} (X : K.In h) (G : h.Ns mainGlobals mg) (c1 : (He.Fa.glo nm).ok K = true) (c2 : (He.Fa.exc nm).ok K = true) : ExF K mg (He.ga K) nm :=
  let ⟨a, b, c, d⟩ := He.exc_ok c2
  ⟨He.glo_ok X G c1, a, b, c, d⟩
def wRaise (nm : Str) : WS := fun Γ _ X => X ⟨nm, none⟩ Γ
section
variable {X : Cx} {G : Gb} {W : WX} {nm m : Str} {j : Nat} {p p2 pos pos' : Pos}
end
end VL

set_option Elab.async false
set_option linter.all false
set_option maxRecDepth 100000
namespace VL
open PySem PySem.Spec PyProof.Rows L2

section
variable {X : Cx} {y n : Str} {c : Value} {i : Nat} {blk su : List Stmt} {s1 : Stmt} {q1 q2 q3 : Pos} {tb : WX → TS} {ts : Addr → TS}
end
end VL

set_option Elab.async false
set_option linter.all false
set_option maxRecDepth 100000
namespace VL
open PySem PySem.Spec PyProof.Rows L2

section
open PySem.W PySem.Calls
variable {prog : Program} {w : World} {A : Around} {E : Value → Shared → Prop} {s : Shared} {K : Fg} {x D : Addr} {ox : Obj} {od : Option Obj}
end
structure ExAll (K : Fg) (xs ys : List Str) : Prop where
  c : ∀ x ∈ xs, ExcC K (He.ga K x)
  ve : ∀ x ∈ xs, PySem.W.kitOne K (.ref (He.ga K x)) (.type "ValueError") = some true
  ct : ∀ x ∈ xs, PySem.W.exmOne K (.ref (He.ga K x)) (.ref (He.ga K "ScoreError")) = some true
  k : ∀ x ∈ xs, ∀ y ∈ ys, PySem.W.kitOne K (.ref (He.ga K x)) (.ref (He.ga K y)) = some (decide (x = y))
def slKp (xs : List Str) : Sl → (Str → Prop) → Prop
  | .op t (.str x), k => t % 10 = 2 ∧ x ∈ xs ∧ k x
  | .op t (.tuple [.str x, _]), k => t % 10 = 6 ∧ x ∈ xs ∧ k x
  | _, _ => False
def wKpA (xs : List Str) (i : Nat) (f : Str → Bool) : WE := fun Γ Q _ => match Γ[i]? with
  | some s => slKp xs s fun x => Q (.sh (.bool (f x))) Γ
  | none => False
section
variable {X : Cx} {G : Gb} {W : WX} {xs ys : List Str} {p p2 p3 p4 pos : Pos}
def tCs (K : Fg) : List Str → TA
  | [] => tNil
  | y :: r => tCons (tC (.ref (He.ga K y))) (tCs K r)
structure DC (X : Cx) (K : Fg) (es : List Expr) (zs : List Str) : Prop where
  pa : PA X es (tCs K zs)
def wMov (j i : Nat) : WS := fun Γ D _ => i ≠ j ∧ i < Γ.length ∧ j < Γ.length ∧ match Γ[i]? with
  | some (.op t d) => 10 ≤ t ∧ D.nx ((Γ.set i .no).set j (.op t d))
  | _ => False
end
end VL

set_option Elab.async false
set_option linter.all false
set_option maxRecDepth 100000
namespace VL
open PySem PySem.Spec PyProof.Rows L2

def exW (e : Exn) (k : Sl → Prop) : Prop := match e.idx with
  | none => k (.op 12 (.str e.name))
  | some .non => k (.op 16 (.tuple [.str e.name, .none]))
  | some (.int j) => k (.op 16 (.tuple [.str e.name, .int j]))
  | _ => False
def wTry (xs : List Str) (i : Nat) (wb ws : WS) : WS := fun Γ D _ => wb Γ D fun e Γ1 => e.name ∈ xs ∧ exW e fun s =>
  ws (Γ1.set i s) ⟨fun Γ2 => D.nx (Γ2.set i .no), D.rt, fun Γ2 => D.bk (Γ2.set i .no), fun Γ2 => D.ct (Γ2.set i .no)⟩ fun _ _ => False
section
variable {X : Cx} {G : Gb} {W : WX} {xs ys : List Str}
theorem Rel.kept (hO : G.Op = OpS G.K) {C : Cf} {Hi H : Hp} {σ : St} {Γ : Ev} (c : Rel G C Hi σ H Γ) (i : Nat) {a : Addr} (ha : H a = none) {cl : Value} {x : Exn} {d : Option Addr} {k : Sl → Prop} (hca : G.ca = He.ga G.K) (hx : G.xr x cl d Hi) (q : exW x k) :
    ∃ s, k s ∧ Rel G C Hi (σ.set i (some (.ref a))) (upd H a (KpD cl d a)) (Γ.set i s) := by
  obtain ⟨fp, c0⟩ := id c
  obtain ⟨z1, z2⟩ := hx
  subst z1
  have main : ∀ s, (∀ t dd, s = .op t dd → t = 12 ∨ t = 16) → (∃ t dd, s = .op t dd ∧ (OpS G.K).ok t dd Hi (upd H a (KpD (.ref (G.ca x.name)) d a)) a [a]) → Rel G C Hi (σ.set i (some (.ref a))) (upd H a (KpD (.ref (G.ca x.name)) d a)) (Γ.set i s) := fun s hs ⟨t, dd, es, ok⟩ => by
    subst es
    have ht := hs t dd rfl
    refine Rel.setOw ⟨_, c0.push (x := some (.ref a)) (l := [a]) (s := .op t dd) (Ext.new ha) ⟨a, rfl, by rw [hO]; exact ok, fun b hb => ?_, fun q hq => by omega⟩ fun b hb => ?_⟩ c.len
    · have : b = a := by simpa using hb
      rw [this]; exact .inl (c0.fresh ha).2
    · have : b = a := by simpa using hb
      rw [this]; exact ha
  unfold exW at q
  split at q
  · rename_i e
    rw [e] at z2
    have z2 : d = none := z2
    subst z2
    exact ⟨_, q, main _ (fun t dd e => by cases e; exact .inl rfl) ⟨_, _, rfl, .inr (.inr (.inl ⟨by decide, x.name, rfl, rfl, by rw [hca, upd_same]⟩))⟩⟩
  · rename_i e
    rw [e] at z2
    obtain ⟨dx, hd, hdx⟩ := z2
    subst hd
    exact ⟨_, q, main _ (fun t dd e => by cases e; exact .inr rfl) ⟨_, _, rfl, .inr (.inr (.inr (.inr (.inr ⟨by decide, x.name, dx, .non, .none, rfl, rfl, by rw [hca, upd_same], hdx, .non⟩))))⟩⟩
  · rename_i j e
    rw [e] at z2
    obtain ⟨dx, hd, hdx⟩ := z2
    subst hd
    exact ⟨_, q, main _ (fun t dd e => by cases e; exact .inr rfl) ⟨_, _, rfl, .inr (.inr (.inr (.inr (.inr ⟨by decide, x.name, dx, .int j, .int j, rfl, rfl, by rw [hca, upd_same], hdx, .int j⟩))))⟩⟩
  · exact q.elim
def slNone : Sl → (Bool → Prop) → Prop
  | .sh d, k => k (isNone d)
  | .op _ _, k => k false
  | _, _ => False
def wIsNV (i : Nat) : WE := fun Γ Q _ => match Γ[i]? with
  | some s => slNone s fun b => Q (.sh (.bool b)) Γ
  | none => False
end
@[simp ↓] theorem ev_wTry (xs : List Str) (i : Nat) (wb ws : WS) (Γ : Ev) (D : WD) (X : XW) : wTry xs i wb ws Γ D X = wb Γ D fun e Γ1 => e.name ∈ xs ∧ exW e fun s =>
  ws (Γ1.set i s) ⟨fun Γ2 => D.nx (Γ2.set i .no), D.rt, fun Γ2 => D.bk (Γ2.set i .no), fun Γ2 => D.ct (Γ2.set i .no)⟩ fun _ _ => False := rfl
@[simp ↓] theorem exW_none (nm : Str) (k : Sl → Prop) : exW ⟨nm, none⟩ k = k (.op 12 (.str nm)) := rfl
@[simp ↓] theorem exW_non (nm : Str) (k : Sl → Prop) : exW ⟨nm, some .non⟩ k = k (.op 16 (.tuple [.str nm, .none])) := rfl
@[simp ↓] theorem exW_int (nm : Str) (j : Int) (k : Sl → Prop) : exW ⟨nm, some (.int j)⟩ k = k (.op 16 (.tuple [.str nm, .int j])) := rfl
@[simp ↓] theorem ev_wRaise (nm : Str) (Γ : Ev) (D : WD) (X : XW) : wRaise nm Γ D X = X ⟨nm, none⟩ Γ := rfl
@[simp ↓] theorem ev_wKpA (xs : List Str) (i : Nat) (f : Str → Bool) (Γ : Ev) (Q : R → Ev → Prop) (X : XW) : wKpA xs i f Γ Q X = getS Γ i fun s => slKp xs s fun x => Q (.sh (.bool (f x))) Γ := by
  rw [getS_at]
  unfold wKpA
  cases Γ[i]? <;> rfl
@[simp ↓] theorem slKp_opI (xs : List Str) (t : Nat) (x : Str) (d : D) (k : Str → Prop) : slKp xs (.op t (.tuple [.str x, d])) k = (t % 10 = 6 ∧ x ∈ xs ∧ k x) := rfl
@[simp ↓] theorem slKp_op (xs : List Str) (t : Nat) (x : Str) (k : Str → Prop) : slKp xs (.op t (.str x)) k = (t % 10 = 2 ∧ x ∈ xs ∧ k x) := rfl
@[simp ↓] theorem ev_wIsNV (i : Nat) (Γ : Ev) (Q : R → Ev → Prop) (X : XW) : wIsNV i Γ Q X = getS Γ i fun s => slNone s fun b => Q (.sh (.bool b)) Γ := by
  rw [getS_at]
  unfold wIsNV
  cases Γ[i]? <;> rfl
@[simp ↓] theorem slNone_sh (d : D) (k : Bool → Prop) : slNone (.sh d) k = k (isNone d) := rfl
@[simp ↓] theorem slNone_op (t : Nat) (d : D) (k : Bool → Prop) : slNone (.op t d) k = k false := rfl
def slMov (Γ : Ev) (j i : Nat) (D : WD) : Sl → Prop
  | .op t d => 10 ≤ t ∧ D.nx ((Γ.set i .no).set j (.op t d))
  | _ => False
@[simp ↓] theorem ev_wMov (j i : Nat) (Γ : Ev) (D : WD) (X : XW) : wMov j i Γ D X = (i ≠ j ∧ i < Γ.length ∧ j < Γ.length ∧ getS Γ i fun s => slMov Γ j i D s) := by
  rw [getS_at]
  unfold wMov
  cases Γ[i]? with
  | none => rfl
  | some s => cases s <;> rfl

@[simp ↓] theorem slMov_op (Γ : Ev) (j i : Nat) (K : WD) (t : Nat) (d : PyData) : slMov Γ j i K (.op t d) = (10 ≤ t ∧ K.nx ((Γ.set i .no).set j (.op t d))) := rfl
end VL

set_option Elab.async false
set_option linter.all false
set_option maxRecDepth 100000
namespace SC
open PySem L2 VL

def nameD : D → Bool
  | .str s => nameB s
  | _ => false
def nmOk (d : D) : Prop := ∀ s, d = .str s → s.length ≤ 1000000
def itemD (d : D) (ps : List (D × D)) : Bool := match d with
  | .tuple [a, b] => nameD b && (PyData.eqv a (.str "bar") || (PyData.eqv a (.str "mark") && !(dget ps b).isSome))
  | .tuple [a, b, c] => nameD b && (PyData.eqv a (.str "repeat") && ((dget ps b).isSome && isIntD c 1 .none))
  | _ => false
def itOk (d : D) : Prop := ∀ l, d = .tuple l → ∀ x ∈ l, SeqAt.shaped x = true ∧ nmOk x
def markD : D → Bool
  | .tuple (a :: _) => PyData.eqv a (.str "mark")
  | _ => false
def nmD1 : D → D
  | .tuple (_ :: b :: _) => b
  | _ => .none
def scoreL : List D → List (D × D) → Nat → Bool
  | [], _, _ => true
  | d :: r, ps, n => itemD d ps && scoreL r (if markD d then dput ps (nmD1 d) (.int (n : Int)) else ps) (n + 1)
def scoreD (d : D) : Bool := match d with
  | .list l => scoreL l [] 0
  | _ => false
def valOk (d : D) : Prop := ∀ l, d = .list l → l.length ≤ 1000 ∧ ∀ x ∈ l, itOk x
end SC

set_option Elab.async false
set_option linter.all false
set_option maxRecDepth 100000
set_option pp.maxSteps 600
namespace SC
open PySem L2 VL
theorem snoc_ind {α : Type _} {P : List α → Prop} (h0 : P []) (h1 : ∀ l a, P l → P (l ++ [a])) (l : List α) : P l := by
  have h : ∀ r : List α, P r.reverse := by
    intro r
    induction r with
    | nil => exact h0
    | cons a r ih => rw [List.reverse_cons]; exact h1 _ _ ih
  have := h l.reverse
  rwa [List.reverse_reverse] at this
structure Ns where
  f : Str → Option Str
  p : List Str
def nsS (z : Ns) : It → Ns
  | .mark n => ⟨z.f, z.p ++ [n]⟩
  | .bar x => ⟨fun m => if m ∈ z.p then some x else z.f m, []⟩
  | .rep _ _ => z
def ns (l : List It) : Ns := l.foldl nsS ⟨fun _ => none, []⟩
theorem ns_snoc (l : List It) (a : It) : ns (l ++ [a]) = nsS (ns l) a := by unfold ns; rw [List.foldl_append]; rfl
def isRp (m : Str) : It → Bool
  | .rep n _ => decide (n = m)
  | _ => false
def ud (l : List It) (m : Str) : Bool := l.any (isRp m)
def apr (is : List It) (x : Str) (c : Int) : List It := match is.getLast? with
  | some (.rep n c') => if n = x then is.dropLast ++ [.rep x ((c' + 1) * (c + 1) - 1)] else is ++ [.rep x c]
  | _ => is ++ [.rep x c]
def nfS (U : Str → Bool) (z : List It × Ns) (a : It) : List It × Ns := (match a with
  | .mark _ => z.1
  | .bar x => z.1 ++ (if z.2.p.any U then [.mark x] else []) ++ [.bar x]
  | .rep n c => apr z.1 ((z.2.f n).getD "") c, nsS z.2 a)
def nfA (U : Str → Bool) (l : List It) : List It × Ns := l.foldl (nfS U) ([], ⟨fun _ => none, []⟩)
theorem nfA_snoc (U : Str → Bool) (l : List It) (a : It) : nfA U (l ++ [a]) = nfS U (nfA U l) a := by unfold nfA; rw [List.foldl_append]; rfl
theorem nfA_ns (U : Str → Bool) (l : List It) : (nfA U l).2 = ns l := by
  refine snoc_ind (P := fun l => (nfA U l).2 = ns l) rfl (fun l a ih => ?_) l
  rw [nfA_snoc, ns_snoc]; show nsS (nfA U l).2 a = _; rw [ih]
def nf (l : List It) : List It := (nfA (ud l) l).1
def rdy (l : List It) : Prop := ∀ l1 n c l2, l = l1 ++ .rep n c :: l2 → ((ns l1).f n).isSome = true
theorem apr_len (is : List It) (x : Str) (c : Int) : (apr is x c).length ≤ is.length + 1 := by
  unfold apr
  split
  · split
    · simp
    · simp
  · simp
theorem nfA_len (U : Str → Bool) (l : List It) : (nfA U l).1.length ≤ 2 * l.length := by
  refine snoc_ind (P := fun l => (nfA U l).1.length ≤ 2 * l.length) (Nat.le_refl _) (fun l a ih => ?_) l
  · rw [nfA_snoc, List.length_append, List.length_singleton]
    cases a with
    | mark n => show (nfA U l).1.length ≤ _; omega
    | bar x =>
      show ((nfA U l).1 ++ (if (nfA U l).2.p.any U then [It.mark x] else []) ++ [It.bar x]).length ≤ _
      split <;> simp <;> omega
    | rep n c =>
      have := apr_len (nfA U l).1 (((nfA U l).2.f n).getD "") c
      show (apr _ _ _).length ≤ _
      omega

def iNm : It → Str
  | .bar n => n
  | .mark n => n
  | .rep n _ => n
def Nmd (l : List It) : Prop := ∀ a ∈ l, nameB (iNm a) = true
theorem lay_sc : ∀ l : List It, Nmd l → PyData.canLayAll0 (sc l) = true ∧ PyData.depthAll (sc l) ≤ 1
  | [], _ => ⟨rfl, by simp [sc, PyData.depthAll]⟩
  | a :: l, h => by
    obtain ⟨h1, h2⟩ := lay_sc l fun b hb => h b (List.mem_cons_of_mem _ hb)
    have e : sc (a :: l) = a.d :: sc l := rfl
    have hn := name_strOk (h a List.mem_cons_self)
    have sb : PyData.strOk "bar" = true := by decide +kernel
    have sm : PyData.strOk "mark" = true := by decide +kernel
    have sr : PyData.strOk "repeat" = true := by decide +kernel
    rw [e]
    cases a <;> simp only [iNm] at hn <;> refine ⟨by simp [PyData.canLayAll0, PyData.canLay0, It.d, h1, hn, sb, sm, sr], ?_⟩ <;> simp [PyData.depthAll, PyData.depth, It.d] <;> omega
theorem shaped_sc {l : List It} (h : Nmd l) : SeqAt.shaped (.list (sc l)) = true := by
  obtain ⟨h1, h2⟩ := lay_sc l h
  unfold SeqAt.shaped
  simp [PyData.canLay0, PyData.depth, h1]
  omega
theorem Nmd.nil : Nmd [] := fun _ h => nomatch h
theorem Nmd.snoc {l : List It} {a : It} (h : Nmd l) (ha : nameB (iNm a) = true) : Nmd (l ++ [a]) := fun b hb => by
  rcases List.mem_append.mp hb with hb | hb
  · exact h b hb
  · rw [List.mem_singleton.mp hb]; exact ha
theorem shaped_nil : SeqAt.shaped (.list []) = true := shaped_sc Nmd.nil
theorem eqv_nil0 (xs : List D) : PyData.eqv (.list xs) (.list []) = decide (xs = []) := by cases xs <;> simp [PyData.eqv, PyData.eqvAll]
theorem ixN_last (n : Nat) : ixN (n + 1) (-1) = some n := by
  unfold ixN
  rw [if_neg (by omega), if_pos (by omega)]
  congr 1
  omega
theorem atI_last (xs : List D) (d : D) : atI (xs ++ [d]) (-1) = some d := by
  unfold atI
  rw [List.length_append, List.length_singleton, ixN_last]
  simp
theorem sc_snoc (l : List It) (a : It) : sc (l ++ [a]) = sc l ++ [a.d] := by simp [sc]
theorem set_last (xs : List D) (d e : D) : (xs ++ [d]).set xs.length e = xs ++ [e] := by simp
theorem apr_nil (x : Str) (c : Int) : apr [] x c = [.rep x c] := rfl
theorem apr_other {l : List It} {a : It} (x : Str) (c : Int) (h : ∀ c', a ≠ .rep x c') : apr (l ++ [a]) x c = l ++ [a] ++ [.rep x c] := by
  unfold apr
  rw [List.getLast?_append]
  cases a with
  | rep n c' =>
    have : n ≠ x := fun e => h c' (by rw [e])
    simp [this]
  | bar n => rfl
  | mark n => rfl
theorem apr_same (l : List It) (x : Str) (c' c : Int) : apr (l ++ [.rep x c']) x c = l ++ [.rep x ((c' + 1) * (c + 1) - 1)] := by
  unfold apr
  simp
theorem Nmd.apr {is : List It} {x : Str} {c : Int} (h : Nmd is) (hx : nameB x = true) : Nmd (apr is x c) := by
  rcases List.eq_nil_or_concat is with rfl | ⟨l, a, rfl⟩
  · exact Nmd.snoc (l := []) h hx
  · by_cases hc : ∃ c', a = .rep x c'
    · obtain ⟨c', rfl⟩ := hc
      rw [List.concat_eq_append, apr_same]
      exact Nmd.snoc (fun b hb => h b (by simp [hb])) hx
    · rw [List.concat_eq_append, apr_other x c fun c' e => hc ⟨c', e⟩]
      rw [List.concat_eq_append] at h
      exact h.snoc hx
def pd : List It → Int
  | [] => 1
  | .rep _ c :: r => (c + 1) * pd r
  | .bar _ :: r => pd r
  | .mark _ :: r => pd r
def Cs (l : List It) : Prop := ∀ n c, It.rep n c ∈ l → 1 ≤ c
theorem pd_app : ∀ a b : List It, pd (a ++ b) = pd a * pd b
  | [], b => by simp [pd]
  | .rep n c :: a, b => by
    show (c + 1) * pd (a ++ b) = (c + 1) * pd a * pd b
    rw [pd_app a b, Int.mul_assoc]
  | .bar _ :: a, b => pd_app a b
  | .mark _ :: a, b => pd_app a b
theorem pd_pos : ∀ {l : List It}, Cs l → 1 ≤ pd l
  | [], _ => by simp [pd]
  | .rep n c :: a, h => by
    have h1 := pd_pos (l := a) fun m d hm => h m d (List.mem_cons_of_mem _ hm)
    have h2 := h n c List.mem_cons_self
    show 1 ≤ (c + 1) * pd a
    have := Int.mul_le_mul (a := 1) (b := 1) (c := c + 1) (d := pd a) (by omega) h1 (by decide) (by omega)
    omega
  | .bar _ :: a, h => pd_pos (l := a) fun m d hm => h m d (List.mem_cons_of_mem _ hm)
  | .mark _ :: a, h => pd_pos (l := a) fun m d hm => h m d (List.mem_cons_of_mem _ hm)
theorem Cs.pre {a b : List It} (h : Cs (a ++ b)) : Cs a := fun n c hm => h n c (List.mem_append_left _ hm)
theorem Cs.suf {a b : List It} (h : Cs (a ++ b)) : Cs b := fun n c hm => h n c (List.mem_append_right _ hm)
theorem pd_pre {a b : List It} (h : Cs (a ++ b)) : pd a ≤ pd (a ++ b) := by
  rw [pd_app]
  have h1 := pd_pos h.pre
  have h2 := pd_pos h.suf
  have := Int.mul_le_mul_of_nonneg_left (c := pd a) h2 (by omega)
  omega
theorem Cs.nil : Cs [] := fun _ _ h => nomatch h
theorem Cs.snoc {l : List It} {a : It} (h : Cs l) (ha : ∀ n c, a = .rep n c → 1 ≤ c) : Cs (l ++ [a]) := fun n c hm => by
  rcases List.mem_append.mp hm with hm | hm
  · exact h n c hm
  · exact ha n c (List.mem_singleton.mp hm).symm
theorem pd_apr (is : List It) (x : Str) (c : Int) : pd (apr is x c) = pd is * (c + 1) := by
  rcases List.eq_nil_or_concat is with rfl | ⟨l, a, rfl⟩
  · simp [apr_nil, pd]
  · rw [List.concat_eq_append]
    by_cases hc : ∃ c', a = .rep x c'
    · obtain ⟨c', rfl⟩ := hc
      rw [apr_same, pd_app, pd_app]
      simp [pd, Int.mul_assoc]
    · rw [apr_other x c fun c' e => hc ⟨c', e⟩, pd_app]
      simp [pd]
theorem Cs.apr {is : List It} {x : Str} {c : Int} (h : Cs is) (hc : 1 ≤ c) : Cs (apr is x c) := by
  rcases List.eq_nil_or_concat is with rfl | ⟨l, a, rfl⟩
  · exact Cs.snoc (l := []) h fun n d e => by cases e; exact hc
  · rw [List.concat_eq_append] at *
    by_cases he : ∃ c', a = .rep x c'
    · obtain ⟨c', rfl⟩ := he
      rw [apr_same]
      refine h.pre.snoc fun n d e => ?_
      cases e
      have h1 := h x c' (by simp)
      have := Int.mul_le_mul (a := 2) (b := 2) (c := c' + 1) (d := c + 1) (by omega) (by omega) (by decide) (by omega)
      omega
    · rw [apr_other x c fun c' e => he ⟨c', e⟩]
      exact h.snoc fun n d e => by cases e; exact hc
theorem log2_mul {a b : Nat} (ha : 1 ≤ a) (hb : 1 ≤ b) : a.log2 + b.log2 ≤ (a * b).log2 := by
  rw [Nat.le_log2 (by have := Nat.mul_le_mul ha hb; omega), Nat.pow_add]
  exact Nat.mul_le_mul (Nat.log2_self_le (by omega)) (Nat.log2_self_le (by omega))
def pdB (p : Int) : Prop := p.toNat.log2 < 900000
theorem pdB.le {a b : Int} (h : pdB b) (e : a ≤ b) : pdB a := by
  unfold pdB at *
  by_cases ha : a.toNat = 0
  · rw [ha]; simp
  · have h1 : a.toNat ≤ b.toNat := by omega
    have : a.toNat.log2 ≤ b.toNat.log2 := by
      rw [Nat.le_log2 (by omega)]
      exact Nat.le_trans (Nat.log2_self_le ha) h1
    omega
theorem mul_pd {a b p : Int} (ha : 1 ≤ a) (hb : 1 ≤ b) (h : a * b ≤ p) (hp : pdB p) : CMulW a b := by
  have hq := hp.le h
  obtain ⟨x, rfl⟩ : ∃ x : Nat, a = (x : Int) := ⟨a.toNat, by omega⟩
  obtain ⟨y, rfl⟩ : ∃ y : Nat, b = (y : Int) := ⟨b.toNat, by omega⟩
  unfold CMulW
  have h1 := log2_mul (a := x) (b := y) (by omega) (by omega)
  have h3 : (x * y).log2 < 900000 := by
    unfold pdB at hq
    rwa [show ((x : Int) * (y : Int)).toNat = x * y from by rw [← Int.natCast_mul]; rfl] at hq
  simp only [Int.natAbs_natCast]
  omega
theorem apr_mul {is : List It} {x : Str} {c p : Int} (h : Cs is) (hc : 1 ≤ c) (hp : pd is * (c + 1) ≤ p) (hb : pdB p) : ∀ c', is.getLast? = some (.rep x c') → CMulW (c' + 1) (c + 1) := by
  intro c' e
  rcases List.eq_nil_or_concat is with rfl | ⟨l, a, rfl⟩
  · cases e
  · rw [List.concat_eq_append] at *
    rw [List.getLast?_append] at e
    have : a = .rep x c' := by simpa using e
    subst this
    have h1 := h x c' (by simp)
    have h2 := pd_pos h.pre
    refine mul_pd (by omega) (by omega) (Int.le_trans ?_ hp) hb
    rw [pd_app]
    have e1 : pd [It.rep x c'] = c' + 1 := by simp [pd]
    rw [e1]
    refine Int.mul_le_mul_of_nonneg_right ?_ (by omega)
    have := Int.mul_le_mul_of_nonneg_right (c := c' + 1) h2 (by omega)
    omega
def fs_append_repeat : FS := fun io ds Q _ => ∃ (is : List It) (x : Str) (c : Int), io = some (.io (.list (sc is))) ∧ ds = [.str x, .int c] ∧ Nmd is ∧ nameB x = true ∧ (∀ c', is.getLast? = some (.rep x c') → CMulW (c' + 1) (c + 1)) ∧ is.length ≤ 100000 ∧ Q (.sh .none) (some (.io (.list (sc (apr is x c)))))
def w_append_repeat : WS := wIfS (wAnd (wT (wOp oNe (wVar 0) (wLst (wNil)))) (wAnd (wT (wOp oEq (wOp oIx (wOp oIx (wVar 0) (wUn (fun a k => isI a fun i => k (.sh (.int (-i)))) (wC (.int 1)))) (wC (.int 0))) (wC (.str "repeat")))) (wT (wOp oEq (wOp oIx (wOp oIx (wVar 0) (wUn (fun a k => isI a fun i => k (.sh (.int (-i)))) (wC (.int 1)))) (wC (.int 1))) (wVar 1))))) (wLPut 0 (wUn (fun a k => isI a fun i => k (.sh (.int (-i)))) (wC (.int 1))) (wTup (wCons (wC (.str "repeat")) (wCons (wVar 1) (wCons (wOp (oII (fun _ _ => True) (· - ·)) (wOp oMul (wOp oAdd (wOp oIx (wOp oIx (wVar 0) (wUn (fun a k => isI a fun i => k (.sh (.int (-i)))) (wC (.int 1)))) (wC (.int 2))) (wC (.int 1))) (wOp oAdd (wVar 2) (wC (.int 1)))) (wC (.int 1))) (wNil)))))) (wDrop (wMut 0 fAppend (wCons (wTup (wCons (wC (.str "repeat")) (wCons (wVar 1) (wCons (wVar 2) (wNil))))) wNil)))
theorem fv_append_repeat : FnV fs_append_repeat 3 w_append_repeat := by
  rintro io ds Q X ⟨is, x, c, rfl, rfl, hn, hx, hm, hl, q⟩
  show w_append_repeat [.io (.list (sc is)), .sh (.str x), .sh (.int c)] _ _
  have hxs : SeqAt.shaped (.str x) = true := shaped_str (name_strOk hx)
  rcases List.eq_nil_or_concat is with rfl | ⟨l, a, rfl⟩
  · have e0 : sc [] = [] := rfl
    rw [e0]
    simp [w_append_repeat, shaped_nil, eqv_nil0]
    exact ⟨smallE (by simp), q⟩
  · rw [List.concat_eq_append] at *
    have hs := shaped_sc hn
    simp at hl
    have hz : (sc l).length + 1 < sizeLine := small (by simp [sc]; omega)
    have ix : ∀ (y : D) (k : R → Prop), k (.sh y) → oIx (.list (sc l ++ [y])) (.int (-1)) k := fun y k h => by
      show match atI (sc l ++ [y]) (-1) with
        | some d => k (.sh d)
        | none => False
      rw [atI_last]; exact h
    have ha : SeqAt.shaped (.str (iNm a)) = true := shaped_str (name_strOk (hn a (by simp)))
    rw [sc_snoc] at hs ⊢
    simp [w_append_repeat, hs, shaped_nil, eqv_nil0]
    refine ix _ _ ?_
    cases a with
    | bar n =>
      simp [It.d, sh_bar, sh_rep, eqv_str, br]
      refine ⟨by simpa using hz, ?_⟩
      rw [apr_other x c (by simp)] at q
      simpa [sc, It.d] using q
    | mark n =>
      simp [It.d, sh_mark, sh_rep, eqv_str, mr]
      refine ⟨by simpa using hz, ?_⟩
      rw [apr_other x c (by simp)] at q
      simpa [sc, It.d] using q
    | rep n c' =>
      simp only [iNm] at ha
      simp [It.d, sh_rep, eqv_str, rr]
      refine ix _ _ ?_
      simp [ha, hxs, eqv_str]
      by_cases hnx : n = x
      · subst hnx
        try rw [if_pos rfl]
        refine ix _ _ ?_
        simp [ixN_last]
        rw [apr_same] at q
        have hm := hm c' (by simp)
        simpa [sc, It.d, hm] using q
      · rw [if_neg hnx]
        refine ⟨by simpa using hz, ?_⟩
        rw [apr_other x c (by simpa using fun e => absurd e hnx)] at q
        simpa [sc, It.d] using q
theorem sc_some {l : List It} {i : Nat} {d : D} (h : (sc l)[i]? = some d) : ∃ it, l[i]? = some it ∧ d = it.d := by
  unfold sc at h
  rw [List.getElem?_map] at h
  obtain ⟨it, h1, h2⟩ := Option.map_eq_some_iff.mp h
  exact ⟨it, h1, h2.symm⟩
theorem take_snocN {α : Type _} {l : List α} {i : Nat} {a : α} (h : l[i]? = some a) : l.take (i + 1) = l.take i ++ [a] := by
  rw [List.take_add_one, h]
  rfl
def nmX (x : Str) (ss : List Str) : List (D × D) := ss.map fun s => (.str s, .str x)
theorem nmX_put (x s : Str) (ss : List Str) : dput (nmX x ss) (.str s) (.str x) = nmX x (if s ∈ ss then ss else ss ++ [s]) := by
  have e : ∀ a : Str, keyEq (.str a) (.str s) = decide (a = s) := fun a => by
    have := keyEq_kD (.inr a) (.inr s)
    simpa [kD] using this
  unfold dput nmX
  rw [List.any_map]
  by_cases h : s ∈ ss
  · have : ss.any ((fun p : D × D => keyEq p.1 (.str s)) ∘ fun a => (PyData.str a, PyData.str x)) = true := List.any_eq_true.mpr ⟨s, h, by simp [e]⟩
    rw [if_pos this, if_pos h, List.map_map]
    refine List.map_congr_left fun a _ => ?_
    show (if keyEq (.str a) (.str s) = true then (PyData.str a, PyData.str x) else (PyData.str a, PyData.str x)) = _
    split <;> rfl
  · have : ¬ ss.any ((fun p : D × D => keyEq p.1 (.str s)) ∘ fun a => (PyData.str a, PyData.str x)) = true := by
      intro hh
      obtain ⟨a, ha, he⟩ := List.any_eq_true.mp hh
      simp only [Function.comp, e, decide_eq_true_eq] at he
      exact h (he ▸ ha)
    rw [if_neg this, if_neg h, List.map_append]
    rfl
theorem dupd_len (ps md : List (D × D)) : (dupd ps md).length ≤ ps.length + md.length := by
  induction md generalizing ps with
  | nil => exact Nat.le_refl _
  | cons p md ih =>
    have h1 := ih (dput ps p.1 p.2)
    have h2 : (dput ps p.1 p.2).length ≤ ps.length + 1 := by
      unfold dput
      split <;> simp
    show (dupd (dput ps p.1 p.2) md).length ≤ _
    rw [List.length_cons]; omega
theorem dupd_nmX (x m : Str) (ss : List Str) : ∀ ps : List (D × D), dget (dupd ps (nmX x ss)) (.str m) = if m ∈ ss then some (.str x) else dget ps (.str m) := by
  induction ss with
  | nil => intro ps; simp [nmX, dupd]
  | cons s ss ih =>
    intro ps
    show dget (dupd (dput ps (.str s) (.str x)) (nmX x ss)) (.str m) = _
    rw [ih, dget_putS]
    by_cases h1 : m ∈ ss
    · simp [h1]
    · by_cases h2 : s = m
      · simp [h2]
      · simp [h1, h2, Ne.symm h2]
theorem nsP_len (l : List It) : (ns l).p.length ≤ l.length := by
  refine snoc_ind (P := fun l => (ns l).p.length ≤ l.length) (Nat.le_refl _) (fun l a ih => ?_) l
  rw [ns_snoc, List.length_append, List.length_singleton]
  cases a with
  | mark n => show ((ns l).p ++ [n]).length ≤ _; simp; omega
  | bar n => exact Nat.zero_le _
  | rep n c => show (ns l).p.length ≤ _; omega
theorem nsF_name {l : List It} (h : Nmd l) : ∀ m x, (ns l).f m = some x → nameB x = true := by
  revert h
  refine snoc_ind (P := fun l => Nmd l → ∀ m x, (ns l).f m = some x → nameB x = true) (fun _ m x e => nomatch e) (fun l a ih h m x e => ?_) l
  have h1 : Nmd l := fun b hb => h b (List.mem_append_left _ hb)
  rw [ns_snoc] at e
  cases a with
  | mark n => exact ih h1 m x e
  | rep n c => exact ih h1 m x e
  | bar n =>
    have e : (if m ∈ (ns l).p then some n else (ns l).f m) = some x := e
    split at e
    · cases e
      exact h (.bar x) (by simp)
    · exact ih h1 m x e
theorem nfA_nm {U : Str → Bool} {l : List It} (h : Nmd l) (hr : rdy l) : Nmd (nfA U l).1 := by
  revert h hr
  refine snoc_ind (P := fun l => Nmd l → rdy l → Nmd (nfA U l).1) (fun _ _ => Nmd.nil) (fun l a ih h hr => ?_) l
  have h1 : Nmd l := fun b hb => h b (List.mem_append_left _ hb)
  have hr1 : rdy l := fun l1 n c l2 e => hr l1 n c (l2 ++ [a]) (by rw [e]; simp)
  have ih := ih h1 hr1
  have ha := h a (by simp)
  rw [nfA_snoc]
  cases a with
  | mark n => exact ih
  | bar n =>
    show Nmd ((nfA U l).1 ++ (if (nfA U l).2.p.any U then [It.mark n] else []) ++ [It.bar n])
    refine Nmd.snoc ?_ ha
    split
    · exact ih.snoc ha
    · rw [List.append_nil]; exact ih
  | rep n c =>
    refine ih.apr ?_
    rw [nfA_ns]
    have hs := hr l n c [] (by simp)
    obtain ⟨x, hx⟩ := Option.isSome_iff_exists.mp hs
    rw [hx]
    exact nsF_name h1 _ _ hx
theorem nfA_cs {U : Str → Bool} {l : List It} (h : Cs l) : Cs (nfA U l).1 ∧ pd (nfA U l).1 = pd l := by
  revert h
  refine snoc_ind (P := fun l => Cs l → Cs (nfA U l).1 ∧ pd (nfA U l).1 = pd l) (fun _ => ⟨Cs.nil, rfl⟩) (fun l a ih h => ?_) l
  obtain ⟨i1, i2⟩ := ih h.pre
  rw [nfA_snoc, pd_app]
  cases a with
  | mark n => exact ⟨i1, by show pd (nfA U l).1 = _; rw [i2]; simp [pd]⟩
  | bar n =>
    show Cs ((nfA U l).1 ++ (if (nfA U l).2.p.any U then [It.mark n] else []) ++ [It.bar n]) ∧ pd ((nfA U l).1 ++ (if (nfA U l).2.p.any U then [It.mark n] else []) ++ [It.bar n]) = _
    rw [pd_app, pd_app, i2]
    constructor
    · refine Cs.snoc ?_ (fun n c e => by cases e)
      split
      · exact i1.snoc fun n c e => by cases e
      · rw [List.append_nil]; exact i1
    · split <;> simp [pd]
  | rep n c =>
    have hc := h n c (by simp)
    refine ⟨i1.apr hc, ?_⟩
    show pd (apr _ _ _) = _
    rw [pd_apr, i2]
    simp [pd]
theorem rdy_pre {a b : List It} (h : rdy (a ++ b)) : rdy a := fun l1 n c l2 e => h l1 n c (l2 ++ b) (by rw [e]; simp)
def fs_normalized : FS := fun io ds Q _ => io = none ∧ ∃ l : List It, ds = [.list (sc l)] ∧ l.length ≤ 10000 ∧ Nmd l ∧ Cs l ∧ pdB (pd l) ∧ rdy l ∧ Q (.ow (.list (sc (nf l)))) none
def w_normalized : WS := wSeq (wSet 1 (wDc [5] (wiL (wVar 0)) (wgName 5) (wT (wOp oEq (wOp oIx (wVar 5) (wC (.int 0))) (wC (.str "repeat")))) (wOp oIx (wVar 5) (wC (.int 1))) (wC (.bool true)))) (wSeq (wSet 2 (wLst (wNil))) (wSeq (wPar [3, 4] (wsCons (wDict0) (wsCons (wLst (wNil)) (wsNil)))) (wSeq (wFor (wiL (wVar 0)) (wgName 5) (wIfS (wT (wOp oEq (wOp oIx (wVar 5) (wC (.int 0))) (wC (.str "mark")))) (wDrop (wMut 4 fAppend (wCons (wOp oIx (wVar 5) (wC (.int 1))) wNil))) (wIfS (wT (wOp oEq (wOp oIx (wVar 5) (wC (.int 0))) (wC (.str "bar")))) (wSeq (wDrop (wDUpd 3 (wDc [6] (wiL (wVar 4)) (wgName 6) (wYes) (wVar 6) (wOp oIx (wVar 5) (wC (.int 1)))))) (wSeq (wIfS (wT (wCB (o1 oAny) (wCons (wLc [6] (wiL (wVar 4)) (wgName 6) (wYes) (wOp (oIn false) (wVar 6) (wVar 1))) (wNil)))) (wDrop (wMut 2 fAppend (wCons (wTup (wCons (wC (.str "mark")) (wCons (wOp oIx (wVar 5) (wC (.int 1))) (wNil)))) wNil))) (wNext)) (wSeq (wSet 4 (wLst (wNil))) (wDrop (wMut 2 fAppend (wCons (wVar 5) wNil)))))) (wDrop (wCallIo fs_append_repeat 2 [] (wCons (wOp oIx (wVar 3) (wOp oIx (wVar 5) (wC (.int 1)))) (wCons (wOp oIx (wVar 5) (wC (.int 2))) (wNil)))))))) (wRet (wVar 2)))))
theorem fv_normalized : FnV fs_normalized 7 w_normalized := by
  rintro io ds Q X ⟨rfl, l, rfl, hl, hn, hc, hp, hr, q⟩
  show w_normalized [.sh (.list (sc l)), .no, .no, .no, .no, .no, .no] _ _
  simp [w_normalized, ev_wDc, okW, wipeE, restE, ev_wFor]
  refine dc_inv (fun i acc Γ => Γ = [.sh (.list (sc l)), .no, .no, .no, .no, .no, .no] ∧ acc.length ≤ i ∧ ∀ m, (dget acc (.str m)).isSome = ud (l.take i) m) ⟨rfl, Nat.le_refl _, fun m => rfl⟩ ?_ ?_
  · rintro i d acc Γ k hd ⟨rfl, h1, h2⟩ hk
    obtain ⟨it, hit, rfl⟩ := sc_some hd
    have ht := take_snocN hit
    have hi := (List.getElem?_eq_some_iff.mp hit).1
    have hz : acc.length < sizeLine := small (by omega)
    have hno : ∀ m, isRp m it = false → ud (l.take (i + 1)) m = ud (l.take i) m := fun m e => by rw [ht]; unfold ud; rw [List.any_append]; simp [e]
    cases it with
    | bar n =>
      simp [dcT, It.d, sh_bar, sh_rep, eqv_str, br]
      exact hk _ _ ⟨rfl, by omega, fun m => by rw [h2, hno m rfl]⟩
    | mark n =>
      simp [dcT, It.d, sh_mark, sh_rep, eqv_str, mr]
      exact hk _ _ ⟨rfl, by omega, fun m => by rw [h2, hno m rfl]⟩
    | rep n c =>
      simp [dcT, It.d, sh_rep, eqv_str, rr]
      simp [wipeE]
      refine ⟨hz, hk _ _ ⟨rfl, Nat.le_trans (dput_len _ _ _) (by omega), fun m => ?_⟩⟩
      rw [dget_putS, ht]
      unfold ud
      rw [List.any_append]
      by_cases hnm : n = m
      · simp [hnm, isRp]
      · have := h2 m
        unfold ud at this
        simp [hnm, isRp, this]
  · rintro used Γ ⟨rfl, u1, u2⟩
    simp
    rw [sc_length] at u1 u2
    rw [List.take_length] at u2
    refine loop_inv (fun i Γ => ∃ (ps : List (D × D)) (s5 : Sl), Γ = [.sh (.list (sc l)), .ow (.dict used), .ow (.list (sc (nfA (ud l) (l.take i)).1)), .ow (.dict ps), .ow (.list ((ns (l.take i)).p.map .str)), s5, .no] ∧ ps.length + (ns (l.take i)).p.length ≤ i ∧ (∀ m, dget ps (.str m) = ((ns (l.take i)).f m).map .str) ∧ (s5 = .no ∨ ∃ d, s5 = .sh d)) ⟨[], .no, rfl, Nat.le_refl _, fun m => rfl, .inl rfl⟩ ?_ ?_
    · rintro i d Γ k hd ⟨ps, s5, rfl, h1, h2, h3⟩ hk
      obtain ⟨it, hit, rfl⟩ := sc_some hd
      have ht := take_snocN hit
      have hi := (List.getElem?_eq_some_iff.mp hit).1
      have hk : ∀ ps' s5, ps'.length + (nsS (ns (l.take i)) it).p.length ≤ i + 1 → (∀ m, dget ps' (.str m) = ((nsS (ns (l.take i)) it).f m).map .str) → k [.sh (.list (sc l)), .ow (.dict used), .ow (.list (sc (nfS (ud l) (nfA (ud l) (l.take i)) it).1)), .ow (.dict ps'), .ow (.list ((nsS (ns (l.take i)) it).p.map .str)), .sh s5, .no] := fun ps' s5 e1 e2 => by
        refine hk _ ⟨ps', _, ?_, ?_, ?_, .inr ⟨s5, rfl⟩⟩
        · rw [ht, nfA_snoc, ns_snoc]
        · rw [ht, ns_snoc]; exact e1
        · rw [ht, ns_snoc]; exact e2
      cases it with
      | mark n =>
        simp [It.d, sh_mark, eqv_str, mm]
        refine ⟨small (by have := nsP_len (l.take i); simp at this; omega), ?_⟩
        have := hk ps (.tuple [.str "mark", .str n]) (by show ps.length + ((ns (l.take i)).p ++ [n]).length ≤ _; simp; omega) h2
        simpa [nsS, nfS] using this
      | bar n =>
        have hn0 := hn (.bar n) (List.mem_of_getElem? hit)
        simp [It.d, sh_bar, sh_mark, eqv_str, bm, bb]
        rw [ev_wDc]
        simp [okW, wipeE]
        have hP := nsP_len (l.take i)
        generalize hz : ns (l.take i) = z at *
        have hPl : z.p.length ≤ 10000 := by simp at hP; omega
        refine dc_inv (fun j acc Γ => Γ = [.sh (.list (sc l)), .ow (.dict used), .ow (.list (sc (nfA (ud l) (l.take i)).1)), .ow (.dict ps), .sh (.list (z.p.map .str)), .sh (.tuple [.str "bar", .str n]), .no] ∧ ∃ ss, acc = nmX n ss ∧ ss.length ≤ j ∧ ∀ m, m ∈ ss ↔ m ∈ z.p.take j) ⟨rfl, [], rfl, Nat.le_refl _, fun m => by simp⟩ ?_ ?_
        · rintro j d acc Γ k2 hd ⟨rfl, ss, rfl, g1, g2⟩ hk2
          rw [List.getElem?_map] at hd
          obtain ⟨m0, hm0, rfl⟩ := Option.map_eq_some_iff.mp hd
          have hj := (List.getElem?_eq_some_iff.mp hm0).1
          simp [dcT, wipeE]
          refine ⟨small (by simp [nmX]; omega), hk2 _ _ ⟨rfl, _, nmX_put n m0 ss, ?_, fun m => ?_⟩⟩
          · split
            · omega
            · simp; omega
          · rw [take_snocN hm0, List.mem_append, List.mem_singleton, ← g2 m]
            by_cases h : m0 ∈ ss
            · rw [if_pos h]
              exact ⟨.inl, fun q => q.elim id fun e => e ▸ h⟩
            · rw [if_neg h, List.mem_append, List.mem_singleton]
        · rintro acc Γ ⟨rfl, ss, rfl, g1, g2⟩
          simp at g1
          have g2 : ∀ m, m ∈ ss ↔ m ∈ z.p := fun m => by have := g2 m; simpa using this
          simp [restE]
          have hlen : ps.length + (nmX n ss).length ≤ 10000 := by simp [nmX]; omega
          refine ⟨Nat.le_of_lt (small (by omega)), ?_⟩
          rw [ev_wLc]
          simp [okW, wipeE]
          refine lcm_map z.p (fun s => .str s) (fun m => .bool (ud l m)) (by omega) (fun m acc k2 hm hzz h1 => ?_) ?_
          · simp [lcT, oIn, wipeE, u2, hzz]
            exact h1
          · simp [restE]
            have e9 : (z.p.map fun m => PyData.bool (ud l m)) = (z.p.map (ud l)).map .bool := by simp
            rw [e9]
            refine ev_any _ _ ?_
            have e8 : (z.p.map (ud l)).any id = z.p.any (ud l) := by rw [List.any_map]; rfl
            rw [e8]
            have hL : (sc (nfA (ud l) (l.take i)).1).length + 1 < sizeLine := by
              have := nfA_len (ud l) (l.take i)
              simp at this
              exact small (by simp [sc]; omega)
            have hL0 : (sc (nfA (ud l) (l.take i)).1).length < sizeLine := by omega
            have kk := hk (dupd ps (nmX n ss)) (.tuple [.str "bar", .str n]) (by
              have := dupd_len ps (nmX n ss)
              show (dupd ps (nmX n ss)).length + 0 ≤ _
              simp [nmX] at this ⊢
              omega) (fun m => by
                rw [dupd_nmX]
                show _ = (if m ∈ z.p then some n else z.f m).map PyData.str
                rw [h2 m]
                by_cases hm : m ∈ z.p
                · rw [if_pos hm, if_pos ((g2 m).mpr hm)]; rfl
                · rw [if_neg hm, if_neg fun q => hm ((g2 m).mp q)])
            have ee : (nfS (ud l) (nfA (ud l) (l.take i)) (It.bar n)).1 = (nfA (ud l) (l.take i)).1 ++ (if z.p.any (ud l) then [.mark n] else []) ++ [.bar n] := by
              show (nfA (ud l) (l.take i)).1 ++ (if (nfA (ud l) (l.take i)).2.p.any (ud l) then [.mark n] else []) ++ [.bar n] = _
              rw [nfA_ns, hz]
            have ep : (nsS z (It.bar n)).p = [] := rfl
            rw [ee, ep] at kk
            show (if z.p.any (ud l) = true then _ else _)
            by_cases hu : z.p.any (ud l) = true
            · rw [if_pos hu] at kk ⊢
              exact ⟨hL0, hL, by simpa [sc, It.d] using kk⟩
            · rw [if_neg hu] at kk ⊢
              exact ⟨hL0, by simpa [sc, It.d] using kk⟩
      | rep n c =>
        have hs : ((ns (l.take i)).f n).isSome = true := hr (l.take i) n c (l.drop (i + 1)) (by
          have := List.getElem?_eq_some_iff.mp hit
          rw [← this.2, List.getElem_cons_drop, List.take_append_drop])
        obtain ⟨x, hx⟩ := Option.isSome_iff_exists.mp hs
        have hp1 : Nmd (l.take i) := fun a ha => hn a (List.mem_of_mem_take ha)
        have hsp : l = l.take i ++ l.drop i := (List.take_append_drop i l).symm
        have hsp1 : l = l.take (i + 1) ++ l.drop (i + 1) := (List.take_append_drop (i + 1) l).symm
        have hc1 : Cs (l.take i) := Cs.pre (b := l.drop i) (by rw [← hsp]; exact hc)
        obtain ⟨c1, c2⟩ := nfA_cs (U := ud l) hc1
        have hcc := hc n c (List.mem_of_getElem? hit)
        have hix : ∀ k : R → Prop, k (.sh (.str x)) → oIx (.dict ps) (.str n) k := fun k h => by
          have := h2 n
          rw [hx] at this
          show (match dget ps (.str n) with
            | some d => k (.sh d)
            | none => False)
          rw [this]
          exact h
        simp [It.d, sh_bar, sh_mark, sh_rep, eqv_str, rm, rb]
        refine hix _ ?_
        simp
        refine ⟨_, x, c, rfl, rfl, nfA_nm hp1 (rdy_pre (b := l.drop i) (by rw [← hsp]; exact hr)), nsF_name hp1 _ _ hx, apr_mul c1 hcc (p := pd l) ?_ hp, ?_, ?_⟩
        · rw [c2]
          have h5 := pd_pre (a := l.take (i + 1)) (b := l.drop (i + 1)) (by rw [← hsp1]; exact hc)
          rw [← hsp1, ht, pd_app] at h5
          simpa [pd] using h5
        · have := nfA_len (ud l) (l.take i)
          simp at this
          omega
        · simp
          have := hk ps (.tuple [.str "repeat", .str n, .int c]) (by show ps.length + (ns (l.take i)).p.length ≤ _; omega) h2
          have e : (nfS (ud l) (nfA (ud l) (l.take i)) (It.rep n c)).1 = apr (nfA (ud l) (l.take i)).1 x c := by
            show apr _ (((nfA (ud l) (l.take i)).2.f n).getD "") c = _
            rw [nfA_ns, hx]
            rfl
          rw [e] at this
          exact this
    · rintro Γ ⟨ps, s5, rfl, h1, h2, h3⟩
      rw [sc_length, List.take_length]
      simp
      exact q
end SC

set_option Elab.async false
set_option linter.all false
set_option maxRecDepth 100000
set_option maxHeartbeats 2000000
namespace VL
open PySem PySem.Spec PyProof.Rows L2 HotX

section
variable {prog : Program} {w : World} {A : Around} {E : Value → Shared → Prop} {s : Shared}
end

def Hk (A : Around) (H : Hp) : Prop := ∃ a cls, A.handled = some (.ref a) ∧ H a = some (KpO cls a)
theorem Hk.at {X : Cx} {pins : List (Addr × Obj)} {σ : St} {H : Hp} {s : Shared} (h : Hk X.A H) (I : Inv X pins σ H s) : ∃ x1, HotAt X.A x1 s.heap := by
  obtain ⟨a, cls, hh, ha⟩ := h
  obtain ⟨⟨oe, vs, h1, z, d⟩, _⟩ := (show ObjOk X.prog X.w H s.heap a (KpO cls a) from I.hok a _ ha)
  exact ⟨a, hh, oe, vs, h1, d, z.2.2 vs d⟩
structure TurnK (P : Program) (w : World) (K : PySem.W.Frag) (tg : Expr) (J : It) (fp : List Addr) (it : Addr) (tn : Nat → Heap → Prop) : Prop where
  mem : it ∈ fp
  obj : ∀ i h, tn i h → ∀ b ∈ fp, ∃ o, h.get? b = some o ∧ ∀ v, o.data ≠ .cell v
  keep : ∀ i h h', tn i h → (∀ b ∈ fp, ∀ o, h.get? b = some o → h'.get? b = some o) → tn i h'
  item : ∀ (X : Cx), X.prog = P → X.w = w → X.K = K → ∀ (i : Nat) (pins : List (Addr × Obj)) (s : Shared) (σ : St) (H : Hp) (E : Value → Shared → Prop), Inv X pins σ H s → (∀ b ∈ fp, FpOk X pins H b) → tn i s.heap → J.go i H →
    wpAny (model P w) X.A (pyNext (.ref it)) (fun r s1 => ∃ u, r = some u ∧
      wpAny (model P w) X.A (letOwnedTupleGo tg (.ref it) u) (fun _ s2 => ∃ x H', Inv X pins σ H' s2 ∧ RelV x u ∧ J.yld i H x H' ∧ tn (i + 1) s2.heap ∧ ∀ b ∈ fp, H' b = none) E s1) E s
  done : ∀ (X : Cx), X.prog = P → X.w = w → X.K = K → ∀ (i : Nat) (pins : List (Addr × Obj)) (s : Shared) (σ : St) (H : Hp) (E : Value → Shared → Prop), Inv X pins σ H s → Hk X.A H → (∀ b ∈ fp, FpOk X pins H b) → tn i s.heap → J.stop i H →
    wpAny (model P w) X.A (pyNext (.ref it)) (fun r s1 => r = none ∧ Inv X pins σ H s1) E s
  self : ∀ (A : Around) (i : Nat) (s : Shared) (Q : Value → Shared → Prop) (E : Value → Shared → Prop), tn i s.heap → Q (.ref it) s → wpAny (model P w) A (pyIter (.ref it)) Q E s
def PIEK (X : Cx) (pins : List (Addr × Obj)) (σ : St) (tg : Expr) (R : It → Hp → Prop) (itv : Value) (s2 : Shared) : Prop :=
  ∃ (it : Addr) (fp : List Addr) (tn : Nat → Heap → Prop) (J : It) (H' : Hp), itv = .ref it ∧ Inv X pins σ H' s2 ∧ TurnK X.prog X.w X.K tg J fp it tn ∧ tn 0 s2.heap ∧ (∀ b ∈ fp, FpOk X pins H' b) ∧ R J H'
structure PIK (X : Cx) (tg iter : Expr) (wi : TI) : Prop where
  run : ∀ (pins : List (Addr × Obj)) (s : Shared) (σ : St) (H : Hp) (R : It → Hp → Prop), Inv X pins σ H s → wi σ H R →
    wpAny (model X.prog X.w) X.A (eval iter X.env) (fun v s1 => wpAny (model X.prog X.w) X.A (pyIter v) (PIEK X pins σ tg R) X.xe s1) X.xe s
section
variable {X : Cx}
end

def slK2 : Sl → Prop
  | .op t _ => t % 10 = 2
  | _ => False
def kepAt (Γ : Ev) (i : Nat) : Prop := match Γ[i]? with
  | some s => slK2 s
  | none => False
@[simp ↓] theorem ev_kepAt (Γ : Ev) (i : Nat) : kepAt Γ i = getS Γ i slK2 := by
  rw [getS_at]; rfl
@[simp ↓] theorem slK2_op (t : Nat) (d : D) : slK2 (.op t d) = (t % 10 = 2) := rfl
section
variable {X : Cx} {G : Gb} {W : WX} {A : Around} {a e : Expr} {es : List Expr} {tg : Expr} {tI : TI} {wI : WI} {ta te : TE} {wa we : WE} {tt : TT} {wt : WT} {g : TG} {gs : TGs} {wg : WG} {wgs : WGs} {vs : List Nat} {ifs : List Expr} {scope : Scope} {own : List (Str × Nat)} {pos : Pos}
def wgTupH (i n : Nat) (b : WGs) : WG := fun d Γ Q => kepAt Γ i ∧ wgTup n b d Γ Q
@[simp ↓] theorem ev_wgTupH (i n : Nat) (b : WGs) (d : D) (Γ : Ev) (Q : Ev → Prop) : wgTupH i n b d Γ Q = (kepAt Γ i ∧ wgTup n b d Γ Q) := rfl
structure DIHt (X : Cx) (G : Gb) (W : WX) (tg e : Expr) (t : TI) (w : WI) : Prop where
  pe : PIK X tg e t
  sim : SimI G W t w
def wLcHt (i : Nat) (vs : List Nat) (wi : WI) (g : WG) (t : WT) (w : WE) : WE := fun Γ Q X => wLc vs wi g t w Γ (fun r Γ' => kepAt Γ' i ∧ Q r Γ') X
@[simp ↓] theorem ev_wLcHt (i : Nat) (vs : List Nat) (wi : WI) (g : WG) (t : WT) (w : WE) (Γ : Ev) (Q : R → Ev → Prop) (X : XW) : wLcHt i vs wi g t w Γ Q X = wLc vs wi g t w Γ (fun r Γ' => kepAt Γ' i ∧ Q r Γ') X := rfl
end
end VL

set_option Elab.async false
set_option linter.all false
set_option maxRecDepth 100000
set_option maxHeartbeats 2000000
namespace VL
open PySem PySem.Spec PyProof.Rows L2 HotX L2H

structure FnHt (P : Program) (w : World) (K : Fg) (mg : Str → Option Value) (base : Heap) (CX : CXT) (k : Nat) (f : Addr) (fd : FuncData) (ps : List Str) (sp : Sp) : Prop where
  len : ∀ vs H Q E, sp vs H Q E → vs.length = ps.length
  run : ∀ (A : Around) (outer : List Env) (s : Shared) (H : Hp) (args : Args) (us : List Value) (a : Addr) (Q : VK) (E : XK), RoomH k A → A.handled = some (.ref a) → Env0 P w K mg base A outer s H → BindsTo s fd args (ps.zip us) → Vals [V.ref a] us → sp [.ref a] H Q E →
    codeAny (model P w) A (.call (.ref f) args) (CR CX outer P w H s Q E) s
section
variable {P : Program} {w : World} {K : Fg} {mg : Str → Option Value} {base : Heap} {x qual : Str} {params : Arguments} {body : List Stmt} {scope : Scope} {dvs : List V} {kws : List (Str × V)} {f : Addr} {fd : FuncData} {N ps : List Str} {k : Nat} {ca : Str → Addr} {fs : FS} {ws : WS}
theorem FnHt.mono {CX : CXT} {j k : Nat} {sp : Sp} (F : FnHt P w K mg base CX j f fd ps sp) (h : j ≤ k) : FnHt P w K mg base CX k f fd ps sp :=
  ⟨F.len, fun A outer s H args us a Q E hr => F.run A outer s H args us a Q E (hr.mono h)⟩
def GdHt (P : Program) (wd : World) (G : Gb) (mg : Str → Option Value) (base : Heap) (k : Nat) (x : Str) (fs : FS) (ps : List Str) : Prop :=
  ∃ (f : Addr) (fd : FuncData), mg x = some (.ref f) ∧ PySem.W.keepIn G.K (.ref f) = true ∧ FnHt P wd G.K mg base (L2N.CX P wd) k f fd ps (lift G fs) ∧ Binds G.K fd ps []
theorem GdHt.mono {wd : World} {G : Gb} {k' : Nat} (h : GdHt P wd G mg base k x fs ps) (l : k ≤ k') : GdHt P wd G mg base k' x fs ps :=
  let ⟨f, fd, h1, h2, h3, h4⟩ := h
  ⟨f, fd, h1, h2, h3.mono l, h4⟩
end
section
variable {X : Cx} {G : Gb} {W : WX} {fs : FS} {ps : List Str} {k : Nat} {x y n : Str} {p p2 pos py pos3 q1 q2 q3 : Pos}
def wTryHt (xs : List Str) (i : Nat) (wb ws : WS) : WS := fun Γ D _ => wb Γ D fun e Γ1 => e.idx = none ∧ e.name ∈ xs ∧ i < Γ1.length ∧
  ws (Γ1.set i (.op 12 (.str e.name))) ⟨fun Γ2 => D.nx (Γ2.set i .no), D.rt, fun Γ2 => D.bk (Γ2.set i .no), fun Γ2 => D.ct (Γ2.set i .no)⟩ fun _ _ => False
@[simp ↓] theorem ev_wTryHt (xs : List Str) (i : Nat) (wb ws : WS) (Γ : Ev) (D : WD) (X : XW) : wTryHt xs i wb ws Γ D X = wb Γ D fun e Γ1 => e.idx = none ∧ e.name ∈ xs ∧ i < Γ1.length ∧ ws (Γ1.set i (.op 12 (.str e.name))) ⟨fun Γ2 => D.nx (Γ2.set i .no), D.rt, fun Γ2 => D.bk (Γ2.set i .no), fun Γ2 => D.ct (Γ2.set i .no)⟩ fun _ _ => False := rfl
end
end VL

set_option Elab.async false
set_option linter.all false
set_option maxRecDepth 100000
namespace SC
open PySem L2 VL

end SC

set_option Elab.async false
set_option linter.all false
set_option maxRecDepth 100000
namespace SC
open PySem L2 VL

end SC

set_option Elab.async false
set_option linter.all false
set_option maxRecDepth 100000
namespace VL
open PySem L2 PyProof.Rows

def tenP : Nat := 10 ^ 4300
mutual
def ShowB : PyData → Prop
  | .none => True
  | .bool _ => True
  | .str _ => True
  | .int i => i.natAbs < tenP
  | .list xs => ShowBAll xs
  | .tuple xs => ShowBAll xs
  | .dict kvs => ShowBKv kvs
def ShowBAll : List PyData → Prop
  | [] => True
  | x :: xs => ShowB x ∧ ShowBAll xs
def ShowBKv : List (PyData × PyData) → Prop
  | [] => True
  | (k, v) :: r => ShowB k ∧ ShowB v ∧ ShowBKv r
end
section
variable {P : Program} {w : World} {K : Fg} {H : Hp} {h : Heap}
theorem reprK_int {i : Int} (t : Tok) (hn : h.NoDigits) (hi : i.natAbs < tenP) : ReprK P w [] h 0 (.int i t) (PyData.shown (.int i)) := by
  intro base hb A g E s Q hg hcl hu hk hQ
  have hb' : base ≤ sizeLine := by omega
  rw [pyReprUnder_leaf (v := .int i t) hb' (fun _ e => nomatch e)]
  unfold pyRepr
  have hns : s.heap.NoDigits := hn.keeps hk
  refine wpAny_bind (wpAny_pyReprObj_slot (by omega) (typeIs_int _ i t) F.slot_int_repr.toG ?_)
  refine wpAny_call (codeAny_call_builtin F.slot_int_repr.plain F.entry_int_repr (F.slot_int_repr.check _ _ _ _ _ _ _ _ (typeIs_int _ i t) (F.args_int_repr_1 _) ?_))
  unfold Builtin.«int.__repr__»
  show wpAny _ _ (do let r ← Builtin.overDigitLimit? i; _) _ _ s
  refine wpAny_bind (overDigitLimit_any hns (fun hlt => ?_) (fun hge => absurd hi (Nat.not_lt.mpr hge)))
  refine wpAny_bind (wpAny_mkStr (wpAny_pure ⟨_, _, rfl, ?_⟩) (int_text_fits10 hlt))
  have := hQ s.heap (s.toks + 1) fun _ _ e => e
  simp only [PyData.shown] at this
  exact wpAny_pure this
theorem key_read {h : Heap} {k : Key} {u : Value} {d : D} (h1 : keyIs k u = true) (hk : kD k = d) (hs : ShowB d) (hz : (PyData.shown d).length ≤ sizeLine) (hn : h.NoDigits) : ∃ as, Reads h u d as ∧ ReprK P w [] h 0 u (PyData.shown d) := by
  rcases keyIs_shape h1 with ⟨i, t, rfl, rfl⟩ | ⟨x, t, rfl, rfl⟩
  · have hp : d = .int i := hk.symm
    subst hp
    exact ⟨_, .int i t, reprK_int t hn (by simpa only [ShowB] using hs)⟩
  · have hp : d = .str x := hk.symm
    subst hp
    refine ⟨_, .str x t, ?_⟩
    simp only [PyData.shown] at hz ⊢
    exact .of_is (ReprIs.str x t hz) _ _ _
theorem keys_read {h : Heap} (hn : h.NoDigits) {es : List DictEntry} {kvs : List (Key × Value)} (hp : Pairs (mixKind P w) es kvs) : ∀ {ds : List D}, kvs.map (fun p => kD p.1) = ds → ShowBAll ds → (∀ t ∈ PyData.shownAll ds, t.length ≤ sizeLine) →
    ∃ as bs, ReadsAll h (es.map (·.key)) ds as ∧ ReadAtMost h (PyData.depthAll ds) bs ∧ ReprAllK P w bs h (PyData.depthAll ds) (es.map (·.key)) (PyData.shownAll ds) := by
  induction hp with
  | nil =>
    intro ds e hs hz
    subst e
    exact ⟨[], [], .nil, (fun _ q => nomatch q), .nil⟩
  | @cons e kv es kvs h1 h2 r ih =>
    intro ds e0 hs hz
    subst e0
    rw [List.map_cons] at hs hz ⊢
    have hs : ShowB (kD kv.1) ∧ ShowBAll (kvs.map fun p => kD p.1) := by simpa only [ShowBAll] using hs
    simp only [PyData.shownAll] at hz
    obtain ⟨as, bs, i1, i2, i3⟩ := ih rfl hs.2 (fun t ht => hz t (List.mem_cons_of_mem _ ht))
    have hd : PyData.depth (kD kv.1) = 0 := (show ∀ k : Key, PyData.depth (kD k) = 0 from fun k => by cases k <;> simp [kD, PyData.depth]) kv.1
    obtain ⟨as', k1, k2⟩ := key_read (P := P) (w := w) (h := h) h1 rfl hs.1 (hz _ List.mem_cons_self) hn
    have hle : PyData.depthAll (kvs.map fun p => kD p.1) ≤ PyData.depthAll (kD kv.1 :: kvs.map fun p => kD p.1) := by simp only [PyData.depthAll]; omega
    refine ⟨as' ++ as, bs, .cons k1 i1, i2.mono hle, ?_⟩
    simp only [List.map_cons, PyData.shownAll, PyData.depthAll]
    exact .cons ((k2.more fun b hb => nomatch hb).level_le (by omega)) (i3.more_le (fun b hb => hb) (by omega))
theorem showBKv_split : ∀ {kvs : List (D × D)}, ShowBKv kvs → ShowBAll (kvs.map (·.1)) ∧ ShowBAll (kvs.map (·.2))
  | [], _ => ⟨trivial, trivial⟩
  | (k, v) :: r, hk => by
    have hk : ShowB k ∧ ShowB v ∧ ShowBKv r := by simpa only [ShowBKv] using hk
    obtain ⟨a, b⟩ := showBKv_split hk.2.2
    exact ⟨⟨hk.1, a⟩, hk.2.1, b⟩
theorem RepKV.keys : ∀ {kvs : List (Key × V)} {ps : List (D × D)}, RepKV K H kvs ps → kvs.map (fun p => kD p.1) = ps.map (·.1)
  | _, _, .nil => rfl
  | _, _, .cons _ r => by rw [List.map_cons, List.map_cons, RepKV.keys r]
theorem kv_keys : ∀ {kvs : List (Key × V)} {vs : List (Key × Value)}, KV kvs vs → kvs.map (fun p => kD p.1) = vs.map fun p => kD p.1
  | _, _, .nil => rfl
  | _, _, .cons h r => by rw [List.map_cons, List.map_cons, kv_keys r, h.1]
theorem pairs_vals : ∀ {es : List DictEntry} {kvs : List (Key × Value)}, Pairs (mixKind P w) es kvs → es.map (·.val) = kvs.map (·.2)
  | _, _, .nil => rfl
  | _, _, .cons _ h r => by rw [List.map_cons, List.map_cons, pairs_vals r, h]
theorem kv_vals : ∀ {kvs : List (Key × V)} {vs : List (Key × Value)}, KV kvs vs → Vals (kvs.map (·.2)) (vs.map (·.2))
  | _, _, .nil => .nil
  | _, _, .cons h r => .cons h.2 (kv_vals r)
theorem RepKV.vals : ∀ {kvs : List (Key × V)} {ps : List (D × D)}, RepKV K H kvs ps → Reps K H (kvs.map (·.2)) (ps.map (·.2))
  | _, _, .nil => .nil
  | _, _, .cons h r => .cons h (RepKV.vals r)
mutual
theorem Rep.showK (I : HOk P w H h) (hn : h.NoDigits) : ∀ {d : D} {v : V} {u : Value}, Rep K H v d → RelV v u → ShowB d → d.shown.length ≤ sizeLine →
    ∃ as bs, Reads h u d as ∧ ReadAtMost h d.depth bs ∧ ReprK P w bs h d.depth u d.shown
  | _, _, u, .non, r, _, _ => by cases (show u = .none from r); exact ⟨_, [], .none, (fun _ q => nomatch q), by simp only [PyData.shown]; exact .of_is ReprIs.none _ _ _⟩
  | _, _, u, .bl b, r, _, _ => by cases (show u = .bool b from r); exact ⟨_, [], .bool b, (fun _ q => nomatch q), by simp only [PyData.shown]; exact .of_is (ReprIs.bool b) _ _ _⟩
  | _, _, u, .int i, r, hs, _ => by
    obtain ⟨t, rfl⟩ := r
    exact ⟨_, [], .int i t, (fun _ q => nomatch q), by
      have := reprK_int (P := P) (w := w) (h := h) (i := i) t hn (by simpa only [ShowB] using hs)
      simpa only [PyData.depth] using this⟩
  | _, _, u, .str x, r, _, hz => by
    obtain ⟨t, rfl⟩ := r
    exact ⟨_, [], .str x t, (fun _ q => nomatch q), by simp only [PyData.shown]; exact .of_is (ReprIs.str x t (by simpa only [PyData.shown] using hz)) _ _ _⟩
  | .list ds, _, u, .lst (a := a) (xs := xs) hl rs, r, hs, hz => by
    cases (show u = .ref _ from r)
    obtain ⟨_, its, n, rv, ho⟩ := I _ _ hl
    have hz' : (listText (PyData.shownAll ds)).length ≤ sizeLine := by simpa only [PyData.shown] using hz
    obtain ⟨as, bs, h4, hb, hk⟩ := Reps.showK I hn rs rv (by simpa only [ShowB] using hs) fun t ht => Nat.le_trans (listText_mem_le ht) hz'
    have h4' : ReadsAll h its.toArray.toList ds as := by simpa using h4
    have rd : Reads h (.ref a) (.list ds) _ := .list ho rfl rfl h4'
    have hna : a ∉ bs := not_mem_of_deeper rd (by simp only [PyData.depth]; omega) hb
    refine ⟨_, a :: bs, rd, ReadAtMost.cons rd (by simp only [PyData.depth]; omega) hb, ?_⟩
    simp only [PyData.depth, PyData.shown]
    cases its with
    | nil =>
      cases h4
      simp only [PyData.shownAll, listText_nil]
      exact ReprK.listEmpty ho rfl rfl
    | cons x l => exact ReprK.list ho rfl rfl hna (by simpa using hk.length_eq) (fun i y e => hk.item i y (by simpa using e))
  | .tuple ds, _, u, .tup (a := a) (xs := xs) hl rs, r, hs, hz => by
    cases (show u = .ref _ from r)
    obtain ⟨_, its, rv, ho⟩ := I _ _ hl
    obtain ⟨o, n, h1, h2, h3⟩ := tup_obj ho
    have hz' : (tupleText (PyData.shownAll ds)).length ≤ sizeLine := by simpa only [PyData.shown] using hz
    obtain ⟨as, bs, h4, hb, hk⟩ := Reps.showK I hn rs rv (by simpa only [ShowB] using hs) fun t ht => Nat.le_trans (tupleText_mem_le ht) hz'
    have h4' : ReadsAll h its.toArray.toList ds as := by simpa using h4
    have rd : Reads h (.ref a) (.tuple ds) _ := .tuple h1 h2 h3 h4'
    have hna : a ∉ bs := not_mem_of_deeper rd (by simp only [PyData.depth]; omega) hb
    refine ⟨_, a :: bs, rd, ReadAtMost.cons rd (by simp only [PyData.depth]; omega) hb, ?_⟩
    simp only [PyData.depth, PyData.shown]
    exact ReprK.tuple h1 h2 h3 hna (by simpa using hk)
  | .dict ps, _, u, .dct (a := a) (kvs := kvs) hl rs, r, hs, hz => by
    cases (show u = .ref _ from r)
    obtain ⟨_, hsys, vs, rv, o, es, ep, h1, h2, h3, _, h5, _⟩ := hl.ok I
    have hz' : (dictText (PyData.shownKv ps)).length ≤ sizeLine := by simpa only [PyData.shown] using hz
    obtain ⟨s1, s2⟩ := showBKv_split (by simpa only [ShowB] using hs)
    obtain ⟨a1, b1, r1, hb1, k1⟩ := keys_read (h := h) hn h5 ((kv_keys rv).symm.trans rs.keys) s1 (fun t ht => let ⟨p, hp, hq⟩ := PyData.shownKv_key_le ps t ht; Nat.le_trans hq (Nat.le_trans (dictText_mem_le hp) hz'))
    have rv2 := kv_vals rv
    rw [← pairs_vals h5] at rv2
    obtain ⟨a2, b2, r2, hb2, k2⟩ := RepKV.showK I hn rs rv2 s2 (fun t ht => let ⟨p, hp, hq⟩ := PyData.shownKv_val_le ps t ht; Nat.le_trans hq (Nat.le_trans (dictText_mem_le hp) hz'))
    have rd : Reads h (.ref a) (.dict ps) _ := .dict h1 h2.1 h3 r1 r2
    have hb : ReadAtMost h (PyData.depthKv ps) (b1 ++ b2) := (hb1.mono (PyData.depthAll_keys_le ps)).append (hb2.mono (PyData.depthAll_vals_le ps))
    have hna : a ∉ b1 ++ b2 := not_mem_of_deeper rd (by simp only [PyData.depth]; omega) hb
    refine ⟨_, a :: (b1 ++ b2), rd, ReadAtMost.cons rd (by simp only [PyData.depth]; omega) hb, ?_⟩
    simp only [PyData.depth, PyData.shown, PyData.shownKv_eq]
    exact ReprK.dict h1 h2.1 h3 hsys hna (ReprEntriesK.of_two es.toList _ _
      (k1.more_le (fun b hb => List.mem_append_left _ hb) (PyData.depthAll_keys_le ps)) (k2.more_le (fun b hb => List.mem_append_right _ hb) (PyData.depthAll_vals_le ps)))
theorem Reps.showK (I : HOk P w H h) (hn : h.NoDigits) : ∀ {ds : List D} {vs : List V} {us : List Value}, Reps K H vs ds → Vals vs us → ShowBAll ds → (∀ t ∈ PyData.shownAll ds, t.length ≤ sizeLine) →
    ∃ as bs, ReadsAll h us ds as ∧ ReadAtMost h (PyData.depthAll ds) bs ∧ ReprAllK P w bs h (PyData.depthAll ds) us (PyData.shownAll ds)
  | _, _, _, .nil, .nil, _, _ => ⟨[], [], .nil, (fun _ q => nomatch q), by simp only [PyData.shownAll]; exact .nil⟩
  | d :: ds, _, _, .cons h1 r1, .cons q1 q2, hs, hz => by
    have hs : ShowB d ∧ ShowBAll ds := by simpa only [ShowBAll] using hs
    simp only [PyData.shownAll] at hz
    obtain ⟨a1, b1, r1', hb1, k1⟩ := Rep.showK I hn h1 q1 hs.1 (hz _ List.mem_cons_self)
    obtain ⟨a2, b2, r2', hb2, k2⟩ := Reps.showK I hn r1 q2 hs.2 fun t ht => hz t (List.mem_cons_of_mem _ ht)
    refine ⟨a1 ++ a2, b1 ++ b2, .cons r1' r2', ?_, ?_⟩
    · exact (hb1.mono (by simp only [PyData.depthAll]; omega)).append (hb2.mono (by simp only [PyData.depthAll]; omega))
    · simp only [PyData.depthAll, PyData.shownAll]
      exact .cons ((k1.more fun b hb => List.mem_append_left _ hb).level_le (Nat.le_max_left _ _)) (k2.more_le (fun b hb => List.mem_append_right _ hb) (Nat.le_max_right _ _))
theorem RepKV.showK (I : HOk P w H h) (hn : h.NoDigits) : ∀ {ps : List (D × D)} {kvs : List (Key × V)} {us : List Value}, RepKV K H kvs ps → Vals (kvs.map (·.2)) us → ShowBAll (ps.map (·.2)) → (∀ t ∈ PyData.shownAll (ps.map (·.2)), t.length ≤ sizeLine) →
    ∃ as bs, ReadsAll h us (ps.map (·.2)) as ∧ ReadAtMost h (PyData.depthAll (ps.map (·.2))) bs ∧ ReprAllK P w bs h (PyData.depthAll (ps.map (·.2))) us (PyData.shownAll (ps.map (·.2)))
  | _, _, _, .nil, .nil, _, _ => ⟨[], [], .nil, (fun _ q => nomatch q), by simp only [List.map_nil, PyData.shownAll]; exact .nil⟩
  | _, _, _, .cons (d := d) (ps := ps) h1 r1, .cons q1 q2, hs, hz => by
    rw [List.map_cons] at hs hz ⊢
    have hs : ShowB d ∧ ShowBAll (ps.map (·.2)) := by simpa only [ShowBAll] using hs
    simp only [PyData.shownAll] at hz
    obtain ⟨a1, b1, r1', hb1, k1⟩ := Rep.showK I hn h1 q1 hs.1 (hz _ List.mem_cons_self)
    obtain ⟨a2, b2, r2', hb2, k2⟩ := RepKV.showK I hn r1 q2 hs.2 fun t ht => hz t (List.mem_cons_of_mem _ ht)
    refine ⟨a1 ++ a2, b1 ++ b2, .cons r1' r2', ?_, ?_⟩
    · exact (hb1.mono (by simp only [PyData.depthAll]; omega)).append (hb2.mono (by simp only [PyData.depthAll]; omega))
    · simp only [PyData.depthAll, PyData.shownAll]
      exact .cons ((k1.more fun b hb => List.mem_append_left _ hb).level_le (Nat.le_max_left _ _)) (k2.more_le (fun b hb => List.mem_append_right _ hb) (Nat.le_max_right _ _))
end
end
end VL

set_option Elab.async false
set_option linter.all false
set_option maxRecDepth 100000
namespace SC
open PySem L2 VL

structure Fit (M : Nat) (t : D) : Prop where
  sh : ShowB t
  dp : t.depth ≤ 5
  lv : t.leavesShort 2800 = true
  bk : t.bulk ≤ M
structure FitAll (M : Nat) (ts : List D) : Prop where
  sh : ShowBAll ts
  dp : PyData.depthAll ts ≤ 4
  lv : PyData.leavesShortAll 2800 ts = true
  bk : PyData.bulkAll ts ≤ M
theorem FitAll.list {M : Nat} {ts : List D} (h : FitAll M ts) : Fit M (.list ts) :=
  ⟨by simpa only [ShowB] using h.sh, by have := h.dp; simp only [PyData.depth]; omega, by simpa only [PyData.leavesShort] using h.lv, by simpa only [PyData.bulk] using h.bk⟩
theorem FitAll.tuple {M : Nat} {ts : List D} (h : FitAll M ts) : Fit M (.tuple ts) :=
  ⟨by simpa only [ShowB] using h.sh, by have := h.dp; simp only [PyData.depth]; omega, by simpa only [PyData.leavesShort] using h.lv, by simpa only [PyData.bulk] using h.bk⟩
theorem FitAll.nil : FitAll 0 [] := ⟨by simp only [ShowBAll], by simp [PyData.depthAll], by simp [PyData.leavesShortAll], by simp [PyData.bulkAll]⟩
theorem FitAll.cons {M N : Nat} {t : D} {ts : List D} (h : Fit M t) (hd : t.depth ≤ 4) (g : FitAll N ts) : FitAll (M + 1 + N) (t :: ts) :=
  ⟨by simp only [ShowBAll]; exact ⟨h.sh, g.sh⟩, by have := g.dp; simp only [PyData.depthAll]; omega, by simp [PyData.leavesShortAll, h.lv, g.lv], by have := h.bk; have := g.bk; simp only [PyData.bulkAll]; omega⟩
theorem Fit.mono {M N : Nat} {t : D} (h : Fit M t) (l : M ≤ N) : Fit N t := ⟨h.sh, h.dp, h.lv, Nat.le_trans h.bk l⟩
theorem FitAll.mono {M N : Nat} {t : List D} (h : FitAll M t) (l : M ≤ N) : FitAll N t := ⟨h.sh, h.dp, h.lv, Nat.le_trans h.bk l⟩
structure Thing (t : D) : Prop where
  fit : Fit 590 t
  dp : t.depth ≤ 3
  len : ∀ xs, t = .list xs → xs.length ≤ 1000
  nts : ∀ ms : List Int, t = .list (ms.map .int) → ∀ x ∈ ms, x.natAbs < 2 ^ 400000
end SC

set_option Elab.async false
set_option linter.all false
set_option maxRecDepth 100000
namespace SC
open PySem L2 VL

end SC

set_option Elab.async false
set_option linter.all false
set_option maxRecDepth 100000
namespace SC
open PySem L2 VL

theorem itOk_of {xs : List D} (h : ∀ x ∈ xs, SeqAt.shaped x = true ∧ nmOk x) : itOk (.tuple xs) := fun l e => by cases e; exact h
theorem nm_int (i : Int) : nmOk (.int i) := fun s e => by cases e
theorem nm_str {x : Str} (h : x.length ≤ 1000000) : nmOk (.str x) := fun s e => by cases e; exact h
theorem nm_name {x : Str} (h : nameB x = true) : nmOk (.str x) := nm_str (by
  unfold nameB at h
  rw [Bool.and_eq_true, Bool.and_eq_true] at h
  have := of_decide_eq_true h.1.2
  omega)
theorem itOk_it {it : It} (h : it.shows) : itOk it.d := by
  cases it with
  | bar n =>
    refine itOk_of fun x hx => ?_
    simp only [List.mem_cons, List.not_mem_nil, or_false] at hx
    rcases hx with rfl | rfl
    · exact ⟨sh_bar, nm_str (by decide +kernel)⟩
    · exact ⟨shaped_str (name_strOk h), nm_name h⟩
  | mark n =>
    refine itOk_of fun x hx => ?_
    simp only [List.mem_cons, List.not_mem_nil, or_false] at hx
    rcases hx with rfl | rfl
    · exact ⟨sh_mark, nm_str (by decide +kernel)⟩
    · exact ⟨shaped_str (name_strOk h), nm_name h⟩
  | rep n c =>
    refine itOk_of fun x hx => ?_
    simp only [List.mem_cons, List.not_mem_nil, or_false] at hx
    rcases hx with rfl | rfl | rfl
    · exact ⟨sh_rep, nm_str (by decide +kernel)⟩
    · exact ⟨shaped_str (name_strOk h.1), nm_name h.1⟩
    · exact ⟨shaped_int c, nm_int c⟩
theorem val_sc {l : List It} (h : ok [] l) (hl : l.length ≤ 1000) : valOk (.list (sc l)) := fun xs e => by
  cases e
  refine ⟨by rw [show (sc l).length = l.length from List.length_map _]; exact hl, fun x hx => ?_⟩
  obtain ⟨it, hi, rfl⟩ := List.mem_map.mp hx
  exact itOk_it (ok_shows h it hi)
theorem scoreL_ok : ∀ {l : List It} {ms : List Str} {ps : List (D × D)} {n : Nat}, ok ms l → Marks ps ms → scoreL (sc l) ps n = true
  | [], _, _, _, _, _ => rfl
  | .bar m :: l, ms, ps, n, h, hm => by
    have ih := scoreL_ok (n := n + 1) h.2 hm
    show (itemD (It.bar m).d ps && scoreL (sc l) (if markD (It.bar m).d then _ else ps) (n + 1)) = true
    have e1 : itemD (It.bar m).d ps = true := by simp [itemD, It.d, nameD, h.1, eqv_str, bb]
    have e2 : markD (It.bar m).d = false := by simp [markD, It.d, eqv_str, bm]
    rw [e1, e2]
    simpa using ih
  | .mark m :: l, ms, ps, n, h, hm => by
    have ih := scoreL_ok (n := n + 1) h.2.2 (hm.put m (.int (n : Int)))
    show (itemD (It.mark m).d ps && scoreL (sc l) (if markD (It.mark m).d then dput ps (nmD1 (It.mark m).d) (.int (n : Int)) else ps) (n + 1)) = true
    have e0 : (dget ps (.str m)).isSome = false := by rw [hm m]; exact decide_eq_false h.2.1
    have e1 : itemD (It.mark m).d ps = true := by simp [itemD, It.d, nameD, h.1, eqv_str, mm, e0]
    have e2 : markD (It.mark m).d = true := by simp [markD, It.d, eqv_str, mm]
    rw [e1, e2]
    simpa [nmD1, It.d] using ih
  | .rep m c :: l, ms, ps, n, h, hm => by
    have ih := scoreL_ok (n := n + 1) h.2.2.2 hm
    show (itemD (It.rep m c).d ps && scoreL (sc l) (if markD (It.rep m c).d then _ else ps) (n + 1)) = true
    have e0 : (dget ps (.str m)).isSome = true := by rw [hm m]; exact decide_eq_true h.2.1
    have e1 : itemD (It.rep m c).d ps = true := by simp [itemD, It.d, nameD, h.1, eqv_str, rr, e0, isIntD]; exact h.2.2.1.1
    have e2 : markD (It.rep m c).d = false := by simp [markD, It.d, eqv_str, rm]
    rw [e1, e2]
    simpa using ih
theorem score_ok {l : List It} (h : ok [] l) : scoreD (.list (sc l)) = true := scoreL_ok h fun n => by simp [dget]
structure NoSc (d : D) : Prop where
  v : valOk d
  s : scoreD d = false
  f : Fit 1700 d
  dp : d.depth ≤ 3
theorem FitAll.append {M N : Nat} : ∀ {ts us : List D}, FitAll M ts → FitAll N us → FitAll (M + N) (ts ++ us)
  | [], _, _, g => g.mono (Nat.le_add_left _ _)
  | t :: ts, us, h, g => by
    obtain ⟨h1, h2, h3, h4⟩ := h
    simp only [ShowBAll] at h1
    simp only [PyData.depthAll] at h2
    simp only [PyData.leavesShortAll, Bool.and_eq_true] at h3
    simp only [PyData.bulkAll] at h4
    obtain ⟨i1, i2, i3, i4⟩ := FitAll.append (M := PyData.bulkAll ts) ⟨h1.2, by omega, h3.2, Nat.le_refl _⟩ g
    refine ⟨?_, ?_, ?_, ?_⟩
    · simp only [List.cons_append, ShowBAll]; exact ⟨h1.1, i1⟩
    · simp only [List.cons_append, PyData.depthAll]; omega
    · simp only [List.cons_append, PyData.leavesShortAll, Bool.and_eq_true]; exact ⟨h3.1, i3⟩
    · simp only [List.cons_append, PyData.bulkAll]; omega
end SC

set_option Elab.async false
set_option linter.all false
set_option maxRecDepth 100000
namespace VL
open PySem PySem.Spec PyProof.Rows L2

def adr (mg : Str → Option Value) (x : Str) : Addr := match mg x with
  | some (.ref a) => a
  | _ => 0
def tAs (mg : Str → Option Value) : List Str → TA
  | [] => tNil
  | x :: r => tCons (tC (.ref (adr mg x))) (tAs mg r)
section
variable {X : Cx} {G : Gb} {W : WX} {mg : Str → Option Value} {k : Nat} {fe e : Expr} {es : List Expr} {tf : TE} {t : TA} {w : WA} {p p2 pos : Pos}
structure DF (X : Cx) (G : Gb) (k : Nat) (mg : Str → Option Value) (es : List Expr) (xs : List Str) (fss : List FS) : Prop where
  pa : PA X es (tAs mg xs)
  ln : xs.length = fss.length
  ok : ∀ (j : Nat) (x : Str) (fs : FS), xs[j]? = some x → fss[j]? = some fs → ∃ fd ps, FnOk X.prog X.w X.K X.mg X.base (L2N.CX X.prog X.w) k (adr mg x) fd ps (lift G fs) ∧ PySem.W.keepIn X.K (.ref (adr mg x)) = true ∧ Binds X.K fd ps []
def wPick (i : Nat) (c : Int) (fss : List FS) (wa : WA) : WE := fun Γ Q X => match Γ[i]? with
  | some (.sh (.int n)) => 0 ≤ n - c ∧ (match fss[(n - c).toNat]? with
    | some fs => wCall fs [] wa Γ Q X
    | none => False)
  | _ => False
end
def slPick (c : Int) (k : Int → Prop) : Sl → Prop
  | .sh (.int n) => 0 ≤ n - c ∧ k (n - c)
  | _ => False
@[simp ↓] theorem ev_wPick (i : Nat) (c : Int) (fss : List FS) (wa : WA) (Γ : Ev) (Q : R → Ev → Prop) (X : XW) : wPick i c fss wa Γ Q X = getS Γ i fun s => slPick c (fun m => match fss[m.toNat]? with
    | some fs => wCall fs [] wa Γ Q X
    | none => False) s := by
  rw [getS_at]
  unfold wPick
  cases Γ[i]? with
  | none => rfl
  | some s =>
    cases s with
    | sh d => cases d <;> rfl
    | _ => rfl
@[simp ↓] theorem slPick_i (c n : Int) (k : Int → Prop) : slPick c k (.sh (.int n)) = (0 ≤ n - c ∧ k (n - c)) := rfl
end VL

set_option Elab.async false
set_option linter.all false
set_option maxRecDepth 100000
namespace SC
open PySem L2 VL

def ScV (s : D) (Q X : Prop) (k : List It → Prop) : Prop := valOk s ∧ (scoreD s = false → X) ∧ (scoreD s = true → ∃ l : List It, s = .list (sc l) ∧ ok [] l ∧ l.length ≤ 290 ∧ k l)
end SC

set_option Elab.async false
set_option linter.all false
set_option maxRecDepth 100000
namespace SC
open PySem L2 VL

def repD (l : List It) (v : D) : Option Nat := match v with
  | .int i => if 0 ≤ i then (match l[i.toNat]? with
    | some (.rep _ _) => some i.toNat
    | _ => none) else none
  | _ => none
end SC

set_option Elab.async false
set_option linter.all false
set_option maxRecDepth 100000
namespace VL
open PySem PySem.Spec PyProof.Rows L2

section
variable {X : Cx} {G : Gb} {W : WX} {k : Nat} {x : Str} {fs : FS} {ps : List Str} {p pos : Pos}
theorem de_call0 (hK : X.K = G.K) (F : Gd X.prog X.w G X.mg X.base k x fs ps []) (hr : Room k X.A) (tk : L2N.Takes X W) (hg : Gl X x := by rfl) (hdb : (x == ("__debug__" : Str)) = false := by decide) :
    DE X G W (.Call (.Name x p) [] [] pos) (tCallSD (lift G fs) [] (L2.WE W) tNil) (wCall fs [] wNil) := by
  obtain ⟨f, fd, h1, h2, h3, ds, h4, h5⟩ := F
  rw [← hK] at h2 h5
  refine ⟨⟨fun pins s σ H Q I h => ?_⟩, sim_callSD (fun _ => .nil) (da_nil (X := X) (G := G) (W := W)).sim⟩
  refine wpAny_Call_Name_kw (ld_glob I hg h1 ?_ hdb)
  exact PySem.W.callWith_K0 I.kIn h2 (run_fnSD (us := []) (by rw [hK]; exact h3) hr h5 h4 (L2N.passAt tk σ) I .nil h)
end

def fs_law_drawX : FS := fun io ds Q _ => ∃ (n : Nat) (m : Int), io = some (.op 1 (.int (n : Int))) ∧ n ≤ 1000000 ∧ ds = [.int m] ∧ 0 < m ∧ m.natAbs < 2 ^ 9000 ∧ ∀ r, 0 ≤ r → r < m → Q (.sh (.int r)) (some (.op 1 (.int ((n + 1 : Nat) : Int))))
def RestW (wr : WS) : Prop := ∀ (m a f k : Int), 0 < m → m.natAbs < 2 ^ 9000 → 0 ≤ k → k ≤ 1010000 →
  wr [.no, .sh (.int m), .io (.list [.int a, .int f, .int k]), .no, .no] ⟨fun _ => False, fun r Γ => ∃ x a' k' : Int, r = .sh (.int x) ∧ 0 ≤ x ∧ x < m ∧ 0 ≤ k' ∧ k' ≤ k + 1 ∧ Γ[2]? = some (.io (.list [.int a', .int f, .int k'])), fun _ => False, fun _ => False⟩ fun _ _ => False
theorem reps_ints3 {K : Fg} {Hi : Hp} {xs : List V} {a b c : Int} (h : Reps K Hi xs [.int a, .int b, .int c]) : xs = [.int a, .int b, .int c] := by
  cases h with
  | cons h1 h =>
    cases h with
    | cons h2 h =>
      cases h with
      | cons h3 h =>
        cases h
        cases h1; cases h2; cases h3
        rfl
theorem deck_run {K : Fg} {ca : Str → Addr} {N : List Str} {tr : TS} {wr : WS} {vs : List V} {H : Hp} {Q : VK} {E : XK} (hN : N.length = 5) (hw : RestW wr) (hs : SimS ⟨K, OpS K, ca⟩ (fun c d _ H => E c d H) tr wr) (h : lift ⟨K, OpS K, ca⟩ fs_law_drawX vs H Q E) :
    tSeq (tAsg (tOp (rIxA K) (tOp (rIxA K) (tVar 0) (tC (.int 0))) (tOp (rI (fun _ j => 0 < j) fun i j => .int (i % j)) (tOp (rIxA K) (tVar 0) (tC (.int 1))) (tCB (rLenA K) (tCons (tOp (rIxA K) (tVar 0) (tC (.int 0))) tNil)))) (gName 2))
      (tSeq (tAsg (tOp (rAddA K) (tOp (rIxA K) (tVar 0) (tC (.int 1))) (tC (.int 1))) (gSub (tVar 0) (tC (.int 1)) rSetL)) tr) { nx := fun _ H' => Q .non H', rt := Q } (L2.start N vs) H := by
  obtain ⟨io, ds, Hi, Qd, Xd, pre, post, fp, rfl, hio, hr, im, av, ⟨n, m, rfl, hn, rfl, h0, h1, q⟩, hQ, hX⟩ := h
  obtain ⟨_, p, rfl, ok⟩ := hio
  cases hr with
  | cons hm hr =>
  cases hr
  cases hm
  obtain ⟨_, n', q0, ys, c, hd, rfl, pq, pys, qys, hp, c0, c1, hq, yne, yl, hy⟩ := op_deck rfl ok
  have : n' = n := by injection hd with hd; omega
  subst this
  have hst : L2.start N ([.ref p] ++ [.int m]) = [some (.ref p), some (.int m), none, none, none] := by
    unfold L2.start
    rw [hN]
    rfl
  rw [hst]
  have yl0 : 0 < ys.length := List.length_pos_iff.mpr yne
  have e0 := Int.emod_nonneg c (b := (ys.length : Int)) (by omega)
  have e1 := Int.emod_lt_of_pos c (b := (ys.length : Int)) (by omega)
  have hidx : (c % (ys.length : Int)).toNat < ys.length := by omega
  obtain ⟨y, hyy⟩ : ∃ y, ys[(c % (ys.length : Int)).toNat]? = some y := ⟨_, List.getElem?_eq_getElem hidx⟩
  have hmem := List.mem_of_getElem? hyy
  obtain ⟨a, f, kk, hya, k0, k1⟩ := hy y hmem
  have yp : y ≠ p := fun z => pys (z ▸ hmem)
  have yq : y ≠ q0 := fun z => qys (z ▸ hmem)
  have hat : atI (ys.map V.ref) (c % ((ys.map V.ref).length : Int)) = some (.ref y) := by
    rw [List.length_map]
    unfold atI ixN
    rw [List.length_map, if_pos e0, if_pos (by omega)]
    show (ys.map V.ref)[(c % (ys.length : Int)).toNat]? = _
    rw [List.getElem?_map, hyy]; rfl
  have sp : SqL K H p [.ref q0, .int c] := SqL.of hp
  have sq : SqL K H q0 (ys.map V.ref) := SqL.of hq
  refine ⟨_, rfl, .inl (.inl ⟨p, _, 0, .ref q0, rfl, rfl, sp, rfl, _, rfl, .inl (.inl ⟨p, _, 1, .int c, rfl, rfl, sp, rfl, _, rfl, .inl (.inl ⟨p, _, 0, .ref q0, rfl, rfl, sp, rfl, .inl ⟨.ref q0, (ys.map V.ref).length, rfl, .inl ⟨_, sq, rfl⟩, c, _, rfl, rfl, by rw [List.length_map]; omega, .inl (.inl ⟨q0, _, _, .ref y, rfl, rfl, sq, hat, ?_⟩)⟩⟩)⟩)⟩)⟩
  refine ⟨_, rfl, .inl (.inl ⟨p, _, 1, .int c, rfl, rfl, sp, rfl, .inl ⟨c, 1, rfl, rfl, _, rfl, p, _, 1, 1, rfl, rfl, hp, rfl, ?_⟩⟩)⟩
  show tr _ [some (.ref p), some (.int m), some (.ref y), none, none] (upd H p (.lst [.ref q0, .int (c + 1)]))
  generalize hH2 : upd H p (.lst [.ref q0, .int (c + 1)]) = H2
  have h2p : H2 p = some (.lst [.ref q0, .int (c + 1)]) := by rw [← hH2]; exact upd_same
  have h2n : ∀ b, b ≠ p → H2 b = H b := fun b hb => by rw [← hH2]; exact upd_ne hb
  have h2y : H2 y = some (.lst [.int a, .int f, .int kk]) := by rw [h2n y yp]; exact hya
  let C : Cf := ⟨H2, fun _ => none, fun b => b = y, fun b hb => by rw [show b = y from hb, h2y]; simp, fun _ => none⟩
  have cR : Rel ⟨K, OpS K, ca⟩ C (fun _ => none) [some (.ref p), some (.int m), some (.ref y), none, none] H2 [.no, .sh (.int m), .io (.list [.int a, .int f, .int kk]), .no, .no] := by
    refine ⟨fun j => if j = 2 then [y] else [], fun b o h _ => h, fun b h => h, (fun b o h => by cases h), (fun b o h => by cases h), (fun b o h => by cases h), rfl, fun j s hs => ?_, fun i j b _ _ hi hj => ?_, fun i b _ hi => rfl⟩
    · match j, hs with
      | 0, hs => cases hs; exact ⟨_, rfl, rfl⟩
      | 1, hs => cases hs; exact ⟨_, rfl, rfl, _, rfl, .int m⟩
      | 2, hs => cases hs; exact ⟨_, rfl, y, rfl, rfl, .lst h2y (.cons (.int a) (.cons (.int f) (.cons (.int kk) .nil))), rfl⟩
      | 3, hs => cases hs; exact ⟨_, rfl, rfl⟩
      | 4, hs => cases hs; exact ⟨_, rfl, rfl⟩
    · by_cases zi : i = 2 <;> by_cases zj : j = 2
      · rw [zi, zj]
      · rw [if_neg zj] at hj; cases hj
      · rw [if_neg zi] at hi; cases hi
      · rw [if_neg zi] at hi; cases hi
  refine hs C _ _ H2 _ _ _ _ cR (hw m a f kk h0 h1 k0 (by omega)) (fun _ _ _ _ _ _ z => z.elim) (fun v r σ' H' Hi' Γ' e o ⟨x, a', k', er, x0, x1, k0', k1', eg⟩ => ?_) (fun _ _ _ _ _ _ z => z.elim) (fun _ _ _ _ _ _ z => z.elim) (fun _ _ _ _ _ _ _ _ _ _ z => z.elim)
  subst er
  obtain ⟨⟨fpf, c'⟩, rv⟩ := o
  cases rv
  obtain ⟨w, hw1, y', hf, ew, ow, hyy'⟩ := c'.sl 2 _ eg
  have hyy' : y' = y := hyy'
  subst hyy'
  have hy' : H' y' = some (.lst [.int a', .int f, .int k']) := by
    cases ow with
    | lst h r => rw [reps_ints3 r] at h; exact h
  have keep : ∀ b o, H b = some o → b ∉ p :: q0 :: ys → H' b = some o := fun b o hb nb => by
    have bp : b ≠ p := fun z => nb (by rw [z]; simp)
    have by' : b ≠ y' := fun z => nb (by rw [z]; simp [hmem])
    exact c'.frame b o (by show H2 b = some o; rw [h2n b bp]; exact hb) by'
  have hlv : ∀ b, H b ≠ none → H' b ≠ none := fun b hb => c'.live b (by
    show H2 b ≠ none
    by_cases z : b = p
    · rw [z, h2p]; simp
    · rw [h2n b z]; exact hb)
  have h'p : H' p = some (.lst [.ref q0, .int (c + 1)]) := c'.frame p _ h2p (Ne.symm yp)
  have h'q : H' q0 = some (.lst (ys.map .ref)) := c'.frame q0 _ (by show H2 q0 = _; rw [h2n q0 (Ne.symm pq)]; exact hq) (Ne.symm yq)
  refine hQ _ (.sh (.int x)) H' Hi (some (.op 1 (.int ((n' + 1 : Nat) : Int)))) (p :: q0 :: ys) ⟨Ext.refl _, fun b o hb => keep b o (im b o hb) fun z => ?_, fun b o z => .inl z, keep, hlv, ⟨by decide, p, rfl, .inr (.inl ⟨rfl, n' + 1, q0, ys, c + 1, rfl, rfl, pq, pys, qys, h'p, by omega, by omega, h'q, yne, yl, fun z hz => ?_⟩)⟩, fun b hb => ⟨av b hb, .inl hb⟩⟩ (.int x) (q x x0 x1)
  · rw [av b z] at hb; cases hb
  · by_cases e : z = y'
    · subst e
      exact ⟨a', f, k', hy', k0', by omega⟩
    · obtain ⟨a1, f1, k1, g1, g2, g3⟩ := hy z hz
      have zp : z ≠ p := fun e => pys (e ▸ hz)
      exact ⟨a1, f1, k1, c'.frame z _ (by show H2 z = _; rw [h2n z zp]; exact g1) e, g2, by omega⟩
end VL

set_option Elab.async false
set_option linter.all false
set_option maxRecDepth 100000
namespace SC
open PySem L2 VL
def w_law_drawX : WS := wSeq (wIfS (wAnd (wT (wOp oEq (wOp oIx (wVar 2) (wC (.int 1))) (wC (.int 1)))) (wT (wOp (oIB fun i j => decide (j < i)) (wOp oIx (wVar 2) (wC (.int 0))) (wC (.int 0))))) (wSeq (wSet 3 (wOp (oII (fun _ j => 0 < j) (· % ·)) (wOp oIx (wVar 2) (wC (.int 0))) (wVar 1))) (wSeq (wLPut 2 (wC (.int 0)) (wOp (oII CDivW (· / ·)) (wOp oIx (wVar 2) (wC (.int 0))) (wVar 1))) (wRet (wVar 3)))) (wNext)) (wSeq (wLPut 2 (wC (.int 2)) (wOp oAdd (wOp oIx (wVar 2) (wC (.int 2))) (wC (.int 1)))) (wSeq (wSet 4 (wOp oAdd (wOp (oII (fun _ j => 0 < j) (· % ·)) (wOp oIx (wVar 2) (wC (.int 0))) (wC (.int 162259276829213363391578010288127))) (wOp oMul (wC (.int 1299709)) (wOp oIx (wVar 2) (wC (.int 2)))))) (wSeq (wSet 4 (wOp (oII (fun _ j => 0 < j) (· % ·)) (wOp (oII CPowW fun i j => i ^ j.toNat) (wVar 4) (wC (.int 3))) (wC (.int 618970019642690137449562111)))) (wSeq (wSet 4 (wOp (oII (fun _ j => 0 < j) (· % ·)) (wOp (oII CPowW fun i j => i ^ j.toNat) (wOp oAdd (wVar 4) (wOp oMul (wC (.int 15485863)) (wOp oIx (wVar 2) (wC (.int 2))))) (wC (.int 3))) (wC (.int 162259276829213363391578010288127)))) (wRet (wOp (oII (fun _ j => 0 < j) (· % ·)) (wOp (oII CDivW (· / ·)) (wVar 4) (wC (.int 1048576))) (wVar 1)))))))
theorem mix_ok {m a k : Int} (hm : 0 < m) (k0 : 0 ≤ k) (k1 : k ≤ 1010000) (hd : ∀ i, CDivW i m) :
    CMulW 1299709 (k + 1) ∧ CPowW (a % 162259276829213363391578010288127 + 1299709 * (k + 1)) 3 ∧ CMulW 15485863 (k + 1) ∧
      CPowW ((a % 162259276829213363391578010288127 + 1299709 * (k + 1)) ^ 3 % 618970019642690137449562111 + 15485863 * (k + 1)) 3 ∧
      CDivW (((a % 162259276829213363391578010288127 + 1299709 * (k + 1)) ^ 3 % 618970019642690137449562111 + 15485863 * (k + 1)) ^ 3 % 162259276829213363391578010288127) 1048576 := by
  have g1 := Int.emod_nonneg a (b := 162259276829213363391578010288127) (by decide)
  have g2 := Int.emod_lt_of_pos a (b := 162259276829213363391578010288127) (by decide)
  have g3 := Int.emod_nonneg ((a % 162259276829213363391578010288127 + 1299709 * (k + 1)) ^ 3) (b := 618970019642690137449562111) (by decide)
  have g4 := Int.emod_lt_of_pos ((a % 162259276829213363391578010288127 + 1299709 * (k + 1)) ^ 3) (b := 618970019642690137449562111) (by decide)
  refine ⟨mul_ok (b := 64) (by decide) (by omega) (by decide) (by decide), pow_ok (b := 300) (by decide) (by decide) (by omega), mul_ok (b := 64) (by decide) (by omega) (by decide) (by decide), pow_ok (b := 300) (by decide) (by decide) ?_, div_ok (by decide) (by decide)⟩
  generalize (a % 162259276829213363391578010288127 + 1299709 * (k + 1)) ^ 3 % 618970019642690137449562111 = x at *
  omega
theorem rest_ok : RestW w_law_drawX := by
  intro m a f k hm hm2 k0 k1
  have hd : ∀ i, CDivW i m := fun i => wide_div (b := 9000) hm hm2 (by decide) (by decide)
  clear hm2
  obtain ⟨x1, x2, x3, x4, x5⟩ := mix_ok (a := a) hm k0 k1 hd
  have tail : ∀ y : Int, 0 ≤ y % m ∧ y % m < m := fun y => ⟨Int.emod_nonneg y (by omega), Int.emod_lt_of_pos y hm⟩
  by_cases hf : f = 1
  · subst hf
    by_cases h : 0 < a
    · simp [w_law_drawX, h, hm, hd, ix3_0, ix3_2, eqv_int, shaped_int, k0]
      exact ⟨(tail a).1, (tail a).2, _, k, k0, by omega, rfl, rfl⟩
    · simp [w_law_drawX, h, hm, ix3_0, ix3_2, eqv_int, shaped_int]
      exact ⟨x1, x2, x3, x4, x5, (tail _).1, (tail _).2, a, k + 1, by omega, Int.le_refl _, rfl, rfl⟩
  · simp [w_law_drawX, hf, hm, ix3_0, ix3_2, eqv_int, shaped_int]
    exact ⟨x1, x2, x3, x4, x5, (tail _).1, (tail _).2, a, k + 1, by omega, Int.le_refl _, rfl, rfl⟩
end SC

set_option Elab.async false
set_option linter.all false
set_option maxRecDepth 100000
namespace L2
open PySem PySem.Spec PyProof.Rows
def rListS : List V → Hp → VK → Prop := fun xs H Q => ∃ x, xs = [.str x] ∧ x.cps.size ≤ sizeLine ∧ ∀ q, H q = none → Q (.ref q) (upd H q (.lst (x.cps.toList.map fun c => V.str ⟨#[c]⟩)))
theorem call_listS {X : Cx} (hc : X.calm = true) : CallR X (.type "list") rListS := by
  intro pins s σ H xs us Q I r h
  obtain ⟨x, e, hz, q⟩ := h
  subst e
  obtain ⟨u, eu, rx⟩ := vals1 r
  subst eu
  obtain ⟨t, rfl⟩ := rx
  refine call_list_str (I.ok.hd hc) x t (fun h' tk acc' c' hkeep hS hacc => ?_) hz
  refine ⟨.ref s.heap.objs.size, upd H s.heap.objs.size (.lst (x.cps.toList.map fun c => V.str ⟨#[c]⟩)), I.laid hkeep (Nat.le_refl _) (show ObjOk X.prog X.w _ _ _ (.lst (x.cps.toList.map fun c => V.str ⟨#[c]⟩)) from ⟨?_, acc'.toList, c', ?_, ?_⟩), rfl, q _ (I.hok.fresh (Nat.le_refl _))⟩
  · rw [List.length_map]; simpa using hz
  · refine vals_of_at (by simp [hacc.1]) fun j x1 w h1 h2 => ?_
    obtain ⟨c, u, hc1, rfl⟩ := hacc.2 j w (by rw [← Array.getElem?_toList]; exact h2)
    rw [List.getElem?_map, Array.getElem?_toList, hc1] at h1
    cases h1
    exact ⟨u, rfl⟩
  · rw [Array.toArray_toList]; exact hS
end L2
namespace VL
open PySem L2
section
variable {G : Gb}
def oListS : Op1 := fun d k => match d with
  | .str x => x.cps.size ≤ sizeLine ∧ k (.ow (.list (signsD x)))
  | _ => False
theorem signs_reps {K : Fg} {Hi : Hp} : ∀ l : List Nat, Reps K Hi (l.map fun c => V.str ⟨#[c]⟩) (l.map fun c => PyData.str ⟨#[c]⟩)
  | [] => .nil
  | c :: l => .cons (.str _) (signs_reps l)
theorem sem_listS : SemN G rListS (o1 oListS) := by
  refine semN_1 ?_
  intro C Hi σ H Γ x a k Q c ha h q
  unfold oListS at h
  split at h
  · obtain ⟨h0, h1⟩ := h
    rename_i z
    refine ⟨z, by rw [ha.str], h0, fun l hl => q _ _ _ Hi (Ext.refl _) (Out.newL c hl (signs_reps _)) h1⟩
  · exact h.elim
theorem t_listS {X : Cx} (hc : X.calm = true) : T1 X G "list" rListS (o1 oListS) := ⟨call_listS hc, sem_listS⟩
@[simp ↓] theorem ev_oListS (x : Str) (k : R → Prop) : oListS (.str x) k = (x.cps.size ≤ sizeLine ∧ k (.ow (.list (signsD x)))) := rfl
end
end VL

set_option Elab.async false
set_option linter.all false
set_option maxRecDepth 100000
namespace VL
open PySem PySem.Spec PyProof.Rows L2

def poolD (p : Int × Int × Int) : D := .list [.int p.1, .int p.2.1, .int p.2.2]
def fs_law_deck : FS := fun io ds Q _ => ∃ ns : List Int, ns.length ≤ 63 ∧ io = some (.op 0 (.list (ns.map .int))) ∧ ds = [] ∧
  ∀ pools : List (Int × Int × Int), pools ≠ [] → pools.length ≤ 63 → (∀ p ∈ pools, 0 ≤ p.2.2 ∧ p.2.2 ≤ 3000) → Q (.ow (.list [.list (pools.map poolD), .int 0])) (some (.op 0 (.list (ns.map .int))))
theorem pools_at {K : Fg} {Hi : Hp} : ∀ {pools : List (Int × Int × Int)} {xs : List V}, Reps K Hi xs (pools.map poolD) → ∃ ys : List Addr, xs = ys.map V.ref ∧ ys.length = pools.length ∧ ∀ y ∈ ys, ∃ p ∈ pools, Hi y = some (.lst [.int p.1, .int p.2.1, .int p.2.2])
  | [], _, h => by cases h; exact ⟨[], rfl, rfl, fun y hy => (nomatch hy)⟩
  | p :: pools, _, h => by
    cases h with
    | cons h1 hr =>
      obtain ⟨ys, rfl, hl, hy⟩ := pools_at hr
      cases h1 with
      | lst ha ra =>
        rename_i a zs
        have := reps_ints3 ra
        subst this
        refine ⟨a :: ys, rfl, by simp [hl], fun y hy' => ?_⟩
        rcases List.mem_cons.mp hy' with rfl | hy'
        · exact ⟨p, List.mem_cons_self, ha⟩
        · obtain ⟨q, hq, e⟩ := hy y hy'
          exact ⟨q, List.mem_cons_of_mem _ hq, e⟩
def wDeck (j i : Nat) : WS := fun Γ D _ => match Γ[j]? with
  | some (.op 0 (.list l)) => (∃ ns : List Int, l = ns.map .int ∧ ns.length ≤ 63) ∧ i < Γ.length ∧ i ≠ j ∧ D.nx (Γ.set i (.op 11 (.int 0)))
  | _ => False
theorem sim_deck {K : Fg} {ca : Str → Addr} {W : WX} (j i : Nat) : SimS ⟨K, OpS K, ca⟩ W (tAsg (tCallSD (lift ⟨K, OpS K, ca⟩ fs_law_deck) [] (L2.WE W) (tCons (tVar j) tNil)) (gName i)) (wDeck j i) := by
  intro C Hi σ H Γ Dn Dd Xd c hw hN hR hB hC hX
  unfold wDeck at hw
  split at hw
  · rename_i l ej
    obtain ⟨⟨ns, rfl, hl⟩, hi, hij, hw⟩ := hw
    obtain ⟨fpf, c⟩ := c
    have hj : j < Γ.length := (List.getElem?_eq_some_iff.mp ej).1
    obtain ⟨x, hx, p0, rfl, ok, home, hpa⟩ := c.sl j _ ej
    refine ⟨_, hx, ?_⟩
    refine ⟨some (.op 0 (.list (ns.map .int))), [], fun _ => none, fun r io => ∃ pools : List (Int × Int × Int), pools ≠ [] ∧ pools.length ≤ 63 ∧ (∀ p ∈ pools, 0 ≤ p.2.2 ∧ p.2.2 ≤ 3000) ∧ r = .ow (.list [.list (pools.map poolD), .int 0]) ∧ io = some (.op 0 (.list (ns.map .int))), fun _ _ => False,
      [.ref p0], [], fpf j, rfl, ⟨by decide, p0, rfl, .inl (op_scr ok)⟩, .nil, (fun a o h => by cases h), fun a _ => rfl, ⟨ns, hl, rfl, rfl, fun pools h1 h2 h3 => ⟨pools, h1, h2, h3, rfl, rfl⟩⟩, fun v r H' Hi' io' fp' L ra q => ?_, fun _ _ _ _ _ _ _ _ _ z => z.elim⟩
    obtain ⟨pools, ne, ln, hk, rfl, rfl⟩ := q
    obtain ⟨p, rfl, ow, hpn, hp0, hpf⟩ := ra
    cases ow with
    | lst hp rp =>
    cases rp with
    | cons r1 rp =>
    cases rp with
    | cons r2 rp =>
    cases rp
    cases r2
    cases r1 with
    | lst hq rq =>
    rename_i q zs
    obtain ⟨ys, rfl, yl, hy⟩ := pools_at rq
    have yne : ys ≠ [] := fun z => ne (List.length_eq_zero_iff.mp (by rw [← yl, z]; rfl))
    have pq : p ≠ q := fun z => by rw [z, hq] at hpn; cases hpn
    have pys : p ∉ ys := fun z => by obtain ⟨_, _, e⟩ := hy p z; rw [hpn] at e; cases e
    have qys : q ∉ ys := fun z => by
      obtain ⟨u, _, e⟩ := hy q z
      rw [hq] at e
      cases ys with
      | nil => exact yne rfl
      | cons y ys => cases e
    have new : ∀ a o, Hi' a = some o → H a = none := fun a o h => (L.ov a o h).resolve_left fun z => by cases z
    have hnew : ∀ a ∈ p :: q :: ys, H a = none := fun a ha => by
      simp only [List.mem_cons] at ha
      rcases ha with rfl | rfl | ha
      · exact hp0
      · exact new _ _ hq
      · obtain ⟨_, _, e⟩ := hy a ha
        exact new _ _ e
    have hnf : ∀ a ∈ p :: q :: ys, a ∉ fp' := fun a ha hf => by
      have hc := (L.cells a hf).1
      simp only [List.mem_cons] at ha
      rcases ha with rfl | rfl | ha
      · exact hpf hf
      · rw [hq] at hc; cases hc
      · obtain ⟨_, _, e⟩ := hy a ha
        rw [e] at hc; cases hc
    obtain ⟨_, p1, e1, ok'⟩ := L.at_
    have : p0 = p1 := by injection e1 with e1; injection e1
    subst this
    have cells2 : ∀ a ∈ fp', Hi a = none ∧ (a ∈ fpf j ∨ H a = none) := fun a ha => by
      rcases (L.cells a ha).2 with z | z
      · exact ⟨c.av j a hj z, .inl z⟩
      · exact ⟨c.imm.none_of z, .inr z⟩
    have home2 : ∀ a ∈ fp', C.H0 a = none ∨ (0 < 10 ∧ C.io a) := fun a ha => by
      rcases (L.cells a ha).2 with z | z
      · exact home a z
      · exact .inl (c.fresh z).2
    have imm2 : Ext Hi H' := fun a o h => L.keep a o (c.imm a o h) (fun z => by rw [c.av j a hj z] at h; cases h)
    have L2 : Left ⟨K, OpS K, ca⟩ Hi H [.ref p0] (fpf j) Hi H' (some (.op 0 (.list (ns.map .int)))) fp' :=
      ⟨Ext.refl _, imm2, fun a o h => .inl h, L.keep, L.live, ⟨by decide, p0, rfl, .inl (op_scr ok')⟩, cells2⟩
    have c2 := c.after ej hx L2 (s1 := .op 0 (.list (ns.map .int))) ⟨p0, rfl, .inl (op_scr ok'), home2, hpa⟩
    have eΓ : Γ.set j (.op 0 (.list (ns.map .int))) = Γ := by
      obtain ⟨hl2, e⟩ := List.getElem?_eq_some_iff.mp ej
      rw [← e]; exact List.set_getElem_self hl2
    rw [eΓ] at c2
    have dk : DeckOk 11 (.int 0) H' p (p :: q :: ys) := ⟨rfl, 0, q, ys, 0, rfl, rfl, pq, pys, qys, hp, by decide, by decide, L.imm _ _ hq, yne, by omega, fun y hy' => by
      obtain ⟨u, hu, e⟩ := hy y hy'
      obtain ⟨k0, k1⟩ := hk u hu
      exact ⟨_, _, _, L.imm _ _ e, k0, by omega⟩⟩
    have c3 := c2.put (i := i) (x := some (.ref p)) (l := p :: q :: ys) (s := .op 11 (.int 0)) hi ⟨p, rfl, .inr (.inl dk), fun a ha => .inl (c.fresh (hnew a ha)).2, fun q hq => absurd hq (by decide)⟩ fun a ha => ⟨c.imm.none_of (hnew a ha), fun k hk2 hki hm => by
      by_cases z : k = j
      · rw [if_pos z] at hm
        exact hnf a ha hm
      · rw [if_neg z] at hm
        obtain ⟨o, e⟩ := c.trk hk2 hm
        rw [hnew a ha] at e; cases e⟩
    exact hN _ H' Hi _ (Ext.refl _) ⟨_, c3⟩ hw
  · exact hw.elim
section
variable {X : Cx} {K : Fg} {ca : Str → Addr} {W : WX} {k : Nat} {x : Str} {ps : List Str} {p p2 p3 pos pos' : Pos}
theorem ds_deck (i j : Nat) {y z : Str} (hK : X.K = K) (hN : X.N.Nodup) (F : Gd X.prog X.w ⟨K, OpS K, ca⟩ X.mg X.base k x fs_law_deck ps []) (hr : Room k X.A) (tk : L2N.Takes X W) (hi : X.N[i]? = some z := by rfl) (hx : L2.Loc X.env.scope z := by first | exact .inl rfl | exact .inr rfl)
    (hNj : X.N[j]? = some y := by rfl) (hv : Vis X.env.scope y := by first | exact Or.inl rfl | exact Or.inr (Or.inl rfl) | exact Or.inr (Or.inr rfl))
    (hd2 : (y == ("__debug__" : Str)) = false := by decide) (hcd : (y == ("__classdict__" : Str)) = false := by decide) (hg : Gl X x := by rfl) (hdb : (x == ("__debug__" : Str)) = false := by decide)
    (he : starEach [.Name y p2] X.env = (false, eval (.Name y p2) X.env) :: starEach [] X.env := by rfl) (hpl : (backTo p3 (starEach [] X.env)).any (·.1) = false := by rfl)
    (hs : swapsWith (.Call (.Name x p) [.Name y p2] [] p3) (some (.Name z pos')) pos.line X.env = pure false := by rfl)
    (hf : X.fn z = true ∨ X.env.scope.names.lookup z = some .local := by first | exact .inl rfl | exact .inr rfl) :
    DS X ⟨K, OpS K, ca⟩ W (.Assign [.Name z pos'] (.Call (.Name x p) [.Name y p2] [] p3) pos) (tAsg (tCallSD (lift ⟨K, OpS K, ca⟩ fs_law_deck) [] (L2.WE W) (tCons (tVar j) tNil)) (gName i)) (wDeck j i) :=
  ⟨ps_set hN hi hx (de_callIo (G := ⟨K, OpS K, ca⟩) hK j F hr tk da_nil hNj hv hd2 hcd hg hdb he hpl).pe hs hf, sim_deck j i⟩
end
def slDk (i j : Nat) (Γ : Ev) (k : Ev → Prop) : Sl → Prop
  | .op 0 (.list l) => (∃ ns : List Int, l = ns.map .int ∧ ns.length ≤ 63) ∧ i < Γ.length ∧ i ≠ j ∧ k (Γ.set i (.op 11 (.int 0)))
  | _ => False
@[simp ↓] theorem ev_wDeck (j i : Nat) (Γ : Ev) (D : WD) (X : XW) : wDeck j i Γ D X = getS Γ j (slDk i j Γ D.nx) := by
  rw [getS_at]
  unfold wDeck
  cases Γ[j]? with
  | none => rfl
  | some s =>
    cases s with
    | op t d => cases t <;> cases d <;> rfl
    | _ => rfl
@[simp ↓] theorem slDk_op (i j : Nat) (Γ : Ev) (k : Ev → Prop) (l : List D) : slDk i j Γ k (.op 0 (.list l)) = ((∃ ns : List Int, l = ns.map .int ∧ ns.length ≤ 63) ∧ i < Γ.length ∧ i ≠ j ∧ k (Γ.set i (.op 11 (.int 0)))) := rfl
end VL

set_option Elab.async false
set_option linter.all false
set_option maxRecDepth 100000
namespace SC
open PySem L2 VL
def w_law_deck : WS := wSeq (wSet 1 (wLst (wNil))) (wSeq (wFor (wiR1 (wCons (wCB (o2 oMax) (wCons (wC (.int 1)) (wCons (wCB (o2 oMin) (wCons (wC (.int 63)) (wCons (wLenS 0) (wNil)))) (wNil)))) (wNil))) (wgName 2) (wSeq (wSet 3 (wC (.int 0))) (wSeq (wIfS (wT (wOp (oIB fun i j => decide (i < j)) (wVar 2) (wLenS 0))) (wSet 3 (wIxS 0 (wVar 2))) (wNext)) (wDrop (wMut 1 fAppend (wCons (wLst (wCons (wVar 3) (wCons (wCB (o1 oInt) (wCons (wOp (oIB fun i j => decide (j ≤ i)) (wVar 3) (wOp (oII CPowW fun i j => i ^ j.toNat) (wC (.int 10)) (wC (.int 18)))) (wNil))) (wCons (wOp oMul (wC (.int 41)) (wVar 2)) (wNil))))) wNil)))))) (wRet (wLst (wCons (wVar 1) (wCons (wC (.int 0)) (wNil))))))
theorem fv_law_deck : FnV fs_law_deck 4 w_law_deck := by
  rintro io ds Q X ⟨ns, hn, rfl, rfl, q⟩
  show w_law_deck [.op 0 (.list (ns.map .int)), .no, .no, .no] _ _
  simp [w_law_deck, ev_wFor]
  obtain ⟨m, hm, m1, m2⟩ : ∃ m : Nat, (if 1 < if (ns.length : Int) < 63 then (ns.length : Int) else 63 then if (ns.length : Int) < 63 then (ns.length : Int) else 63 else 1) = (m : Int) ∧ 1 ≤ m ∧ m ≤ 63 := by
    refine ⟨(if 1 < if (ns.length : Int) < 63 then (ns.length : Int) else 63 then if (ns.length : Int) < 63 then (ns.length : Int) else 63 else 1).toNat, ?_, ?_, ?_⟩ <;> (split <;> split at * <;> omega)
  rw [hm]
  refine ⟨by omega, by omega, ?_⟩
  have t18 : CPowW 10 18 := pow10 18 (by decide) (by decide)
  refine loop_inv (fun i Γ => ∃ (pools : List (Int × Int × Int)) (a2 a3 : Sl), Γ = [.op 0 (.list (ns.map .int)), .ow (.list (pools.map poolD)), a2, a3] ∧ pools.length = i ∧ ∀ p ∈ pools, 0 ≤ p.2.2 ∧ p.2.2 ≤ 3000) ⟨[], _, _, rfl, rfl, fun p hp => (nomatch hp)⟩ ?_ ?_
  · rintro i d Γ k hd ⟨pools, a2, a3, rfl, hl, hp⟩ hk
    have hil := (List.getElem?_eq_some_iff.mp hd).1
    simp [rangeD] at hil
    simp only [rangeD, List.getElem?_map] at hd
    rw [List.getElem?_range (by omega)] at hd
    cases (Option.some.inj hd)
    have hm41 : CMulW 41 (0 + (i : Int)) := mul_ok (b := 64) (by decide) (by omega) (by decide) (by decide)
    have fin : ∀ (c f : Int), k [.op 0 (.list (ns.map .int)), .ow (.list (pools.map poolD ++ [.list [.int c, .int f, .int (41 * (0 + (i : Int)))]])), .sh (.int (0 + (i : Int))), .sh (.int c)] := fun c f => by
      refine hk _ ⟨pools ++ [(c, f, 41 * (0 + (i : Int)))], _, _, by rw [List.map_append]; rfl, by simp [hl], fun p hp2 => ?_⟩
      rcases List.mem_append.mp hp2 with z | z
      · exact hp p z
      · have : p = (c, f, 41 * (0 + (i : Int))) := by simpa using z
        subst this
        exact ⟨by show 0 ≤ 41 * (0 + (i : Int)); omega, by show 41 * (0 + (i : Int)) ≤ 3000; omega⟩
    have e0 : (0 : Int) + (i : Int) = (i : Int) := by omega
    rw [e0] at fin hm41
    have hz : pools.length < sizeLine := Nat.lt_of_lt_of_le (Nat.lt_succ_self _) (smallE (by omega))
    simp
    by_cases h : i < ns.length
    · have ea : atI (ns.map PyData.int) (i : Int) = some (.int ns[i]) := by
        rw [atI_map]
        have : atI ns (i : Int) = ns[i]? := by
          unfold atI ixN
          rw [if_pos (by omega), if_pos (by omega)]
          rfl
        rw [this, List.getElem?_eq_getElem h]
        rfl
      rw [if_pos h, ea]
      simp [t18, hm41, hz]
      exact fin _ _
    · rw [if_neg h]
      exact ⟨t18, hm41, hz, fin _ _⟩
  · rintro Γ ⟨pools, a2, a3, rfl, hl, hp⟩
    simp
    have e : (rangeD 0 m).length = m := by simp [rangeD]
    rw [Int.toNat_natCast, e] at hl
    exact q pools (fun z => by rw [z] at hl; simp at hl; omega) (by omega) hp
def mkN : List Str := ("abcdefghijklmnopqrstuvwxyz" : Str).cps.toList.map (fun c => (⟨#[c]⟩ : Str)) ++ ([("bar" : Str), "mark", "repeat", "do", "re", "zz", "zzzzzzzz", "ab", "ba", "one", "az", "za", "mi", "fa"] : List Str)
theorem mkN_ok : mkN.length = 40 ∧ (∀ x ∈ mkN, nameB x = true) ∧ mkN.Nodup := by decide +kernel
def fs_law_mark_names : FS := fun io ds Q _ => io = none ∧ ds = [] ∧ Q (.ow (.list (mkN.map .str))) none
def w_law_mark_names : WS := wSeq (wSet 0 (wOp oAdd (wCB (o1 oListS) (wCons (wC (.str "abcdefghijklmnopqrstuvwxyz")) (wNil))) (wLst (wCons (wC (.str "bar")) (wCons (wC (.str "mark")) (wCons (wC (.str "repeat")) (wCons (wC (.str "do")) (wCons (wC (.str "re")) (wCons (wC (.str "zz")) (wCons (wC (.str "zzzzzzzz")) (wCons (wC (.str "ab")) (wNil)))))))))))) (wRet (wOp oAdd (wVar 0) (wLst (wCons (wC (.str "ba")) (wCons (wC (.str "one")) (wCons (wC (.str "az")) (wCons (wC (.str "za")) (wCons (wC (.str "mi")) (wCons (wC (.str "fa")) (wNil))))))))))
theorem fv_law_mark_names : FnV fs_law_mark_names 1 w_law_mark_names := by
  rintro io ds Q X ⟨rfl, rfl, q⟩
  show w_law_mark_names [.no] _ _
  simp [w_law_mark_names]
  have e : signsD "abcdefghijklmnopqrstuvwxyz" = (("abcdefghijklmnopqrstuvwxyz" : Str).cps.toList.map (fun c => (⟨#[c]⟩ : Str))).map .str := by unfold signsD; rw [List.map_map]; rfl
  have el : (signsD "abcdefghijklmnopqrstuvwxyz").length = 26 := by decide +kernel
  rw [el]
  refine ⟨smallE (by decide +kernel), smallE (by decide), smallE (by decide), ?_⟩
  rw [e]
  have e2 : (mkN.map PyData.str) = (("abcdefghijklmnopqrstuvwxyz" : Str).cps.toList.map (fun c => (⟨#[c]⟩ : Str))).map .str ++ [.str "bar", .str "mark", .str "repeat", .str "do", .str "re", .str "zz", .str "zzzzzzzz", .str "ab", .str "ba", .str "one", .str "az", .str "za", .str "mi", .str "fa"] := by unfold mkN; rw [List.map_append]; rfl
  rw [← e2]
  exact q
end SC

set_option Elab.async false
set_option linter.all false
set_option maxRecDepth 100000
namespace SC
open PySem L2 VL
theorem dkW {c m : Int} {Q : R → Option Sl → Prop} {X : Exn → Option Sl → Prop} (c0 : 0 ≤ c) (hn : c ≤ 1000000) (h0 : 0 < m) (h1 : m.natAbs < 2 ^ 9000) (q : ∀ r, 0 ≤ r → r < m → Q (.sh (.int r)) (some (.op 1 (.int (c + 1))))) :
    fs_law_drawX (some (.op 1 (.int c))) [.int m] Q X := by
  obtain ⟨n, rfl⟩ : ∃ n : Nat, c = (n : Int) := ⟨c.toNat, by omega⟩
  exact ⟨n, m, rfl, by omega, rfl, h0, h1, fun r r0 r1 => q r r0 r1⟩
theorem dk {c m : Int} {Q : R → Option Sl → Prop} {X : Exn → Option Sl → Prop} (c0 : 0 ≤ c) (hn : c ≤ 1000000) (h0 : 0 < m) (h1 : m < 2 ^ 64) (q : ∀ r, 0 ≤ r → r < m → Q (.sh (.int r)) (some (.op 1 (.int (c + 1))))) :
    fs_law_drawX (some (.op 1 (.int c))) [.int m] Q X := dkW c0 hn h0 (Nat.lt_of_lt_of_le (by omega : m.natAbs < 2 ^ 64) (Nat.pow_le_pow_right (by decide) (by decide))) q
theorem fPop_i {l : List D} {r : Int} {k : List D → D → Prop} {d : D} (h0 : 0 ≤ r) (hd : l[r.toNat]? = some d) (hz : l.length < 2 ^ 62) (q : k (l.eraseIdx r.toNat) d) : fPop l [.int r] k := by
  have hl := (List.getElem?_eq_some_iff.mp hd).1
  have e : ixN l.length r = some r.toNat := by unfold ixN; rw [if_pos h0, if_pos (by omega)]
  unfold fPop
  simp only [e, hd]
  exact ⟨hz, q⟩
theorem erase_map (f : Str → D) : ∀ (l : List Str) (j : Nat), (l.map f).eraseIdx j = (l.eraseIdx j).map f
  | [], _ => rfl
  | _ :: _, 0 => rfl
  | a :: l, j + 1 => by
    show f a :: (l.map f).eraseIdx j = f a :: (l.eraseIdx j).map f
    rw [erase_map f l j]
theorem erase_nd : ∀ {l : List Str} {j : Nat} {n : Str}, l.Nodup → l[j]? = some n → n ∉ l.eraseIdx j
  | [], _, _, _, h => by simp at h
  | a :: l, 0, n, hn, h => by
    have : a = n := by simpa using h
    subst this
    exact (List.nodup_cons.mp hn).1
  | a :: l, j + 1, n, hn, h => by
    have h : l[j]? = some n := by simpa using h
    have hn := List.nodup_cons.mp hn
    intro z
    rcases List.mem_cons.mp z with z | z
    · exact hn.1 (z ▸ List.mem_of_getElem? h)
    · exact erase_nd hn.2 h z
structure DkI (l : List It) (ms us : List Str) (i : Nat) : Prop where
  h : ok [] l
  hl : l.length ≤ i
  mm : ∀ x, x ∈ mk [] l ↔ x ∈ ms
  un : ∀ x ∈ us, nameB x = true ∧ x ∉ ms
  nd : us.Nodup
  ul : us.length ≤ 40
  ln : 40 ≤ us.length + i
  nm : ∀ x ∈ ms, nameB x = true
  ml : ms.length ≤ i
theorem DkI.bar {l : List It} {ms us : List Str} {i : Nat} (I : DkI l ms us i) {n : Str} (hn : nameB n = true) : DkI (l ++ [.bar n]) ms us (i + 1) := by
  have h1 := I.hl; have h2 := I.ul; have h3 := I.ln; have h4 := I.ml
  exact ⟨(ok_app _ _ _).mpr ⟨I.h, hn, trivial⟩, by simp; omega, fun x => by rw [mk_app]; exact I.mm x, I.un, I.nd, I.ul, by omega, I.nm, by omega⟩
theorem DkI.rep {l : List It} {ms us : List Str} {i : Nat} (I : DkI l ms us i) {n : Str} (hn : n ∈ ms) {c : Int} (c1 : 1 ≤ c) (c2 : c < 2 ^ 31) : DkI (l ++ [.rep n c]) ms us (i + 1) := by
  have h1 := I.hl; have h2 := I.ul; have h3 := I.ln; have h4 := I.ml
  exact ⟨(ok_app _ _ _).mpr ⟨I.h, I.nm n hn, (I.mm n).mpr hn, ⟨c1, c2⟩, trivial⟩, by simp; omega, fun x => by rw [mk_app]; exact I.mm x, I.un, I.nd, I.ul, by omega, I.nm, by omega⟩
theorem DkI.mark {l : List It} {ms us : List Str} {i j : Nat} {n : Str} (I : DkI l ms us i) (hj : us[j]? = some n) : DkI (l ++ [.mark n]) (ms ++ [n]) (us.eraseIdx j) (i + 1) := by
  have h1 := I.hl; have h2 := I.ul; have h3 := I.ln; have h4 := I.ml
  have hjl := (List.getElem?_eq_some_iff.mp hj).1
  have hu := I.un n (List.mem_of_getElem? hj)
  have el : (us.eraseIdx j).length = us.length - 1 := by rw [List.length_eraseIdx]; simp [hjl]
  refine ⟨(ok_app _ _ _).mpr ⟨I.h, hu.1, fun z => hu.2 ((I.mm n).mp z), trivial⟩, by simp; omega, fun x => ?_, fun x hx => ?_, I.nd.sublist (List.eraseIdx_sublist _ _), by omega, by omega, fun x hx => ?_, by simp; omega⟩
  · rw [mk_app]
    show x ∈ n :: SC.mk [] l ↔ _
    rw [List.mem_cons, List.mem_append, I.mm x]
    simp [or_comm]
  · have hx2 := List.mem_of_mem_eraseIdx hx
    refine ⟨(I.un x hx2).1, fun z => ?_⟩
    rcases List.mem_append.mp z with z | z
    · exact (I.un x hx2).2 z
    · have : x = n := by simpa using z
      subst this
      exact erase_nd I.nd hj hx
  · rcases List.mem_append.mp hx with z | z
    · exact I.nm x z
    · have : x = n := by simpa using z
      rw [this]; exact hu.1
end SC

set_option Elab.async false
set_option linter.all false
set_option maxRecDepth 100000
set_option pp.maxSteps 600
namespace SC
open PySem L2 VL

end SC

set_option Elab.async false
set_option linter.all false
set_option maxRecDepth 100000
set_option pp.maxSteps 600
namespace SC
open PySem L2 VL
theorem adj_mid (m n : Str) (c : Int) : ∀ x y : List It, adj (x ++ .mark m :: .rep n c :: y) = true
  | [], y => rfl
  | [a], y => by
    show ((itMark a && itRep (.mark m)) :: (itMark (.mark m) && itRep (.rep n c)) :: adjL (.rep n c :: y)).any id = true
    simp [itMark, itRep]
  | a :: b :: x, y => by
    have ih := adj_mid m n c (b :: x) y
    show ((itMark a && itRep b) :: adjL (b :: x ++ .mark m :: .rep n c :: y)).any id = true
    rw [List.any_cons]
    have : (adjL (b :: x ++ .mark m :: .rep n c :: y)).any id = true := ih
    rw [this]
    simp
theorem nsP_nil : ∀ (l1 : List It) (n : Str) (c : Int) (l2 : List It), adj (l1 ++ .rep n c :: l2) = false → (ns l1).p = [] := by
  intro l1
  refine snoc_ind (P := fun l1 => ∀ (n : Str) (c : Int) (l2 : List It), adj (l1 ++ .rep n c :: l2) = false → (ns l1).p = []) (fun _ _ _ _ => rfl) (fun l a ih n c l2 h => ?_) l1
  rw [ns_snoc]
  rw [List.append_assoc] at h
  cases a with
  | bar x => rfl
  | rep m d => exact ih m d _ h
  | mark m => rw [show [It.mark m] ++ It.rep n c :: l2 = .mark m :: .rep n c :: l2 from rfl, adj_mid] at h; cases h
theorem ns_has (l : List It) : ∀ n, .mark n ∈ l → n ∈ (ns l).p ∨ ((ns l).f n).isSome = true := by
  refine snoc_ind (P := fun l => ∀ n, .mark n ∈ l → n ∈ (ns l).p ∨ ((ns l).f n).isSome = true) (fun n h => nomatch h) (fun l a ih n h => ?_) l
  rw [ns_snoc]
  rcases List.mem_append.mp h with h | h
  · have ih := ih n h
    cases a with
    | mark m =>
      rcases ih with ih | ih
      · exact .inl (List.mem_append_left _ ih)
      · exact .inr ih
    | rep m c => exact ih
    | bar x =>
      refine .inr ?_
      show (if n ∈ (ns l).p then some x else (ns l).f n).isSome = true
      by_cases hp : n ∈ (ns l).p
      · rw [if_pos hp]; rfl
      · rw [if_neg hp]; exact ih.resolve_left hp
  · have := List.mem_singleton.mp h
    subst this
    exact .inl (List.mem_append_right _ (List.mem_singleton.mpr rfl))
theorem rdy_of {l : List It} (h : ok [] l) (ha : adj l = false) : rdy l := by
  rintro l1 n c l2 rfl
  have e : (l1 ++ It.rep n c :: l2)[l1.length]? = some (.rep n c) := by simp
  rcases ok_mark h e with q | ⟨j, hj, ej⟩
  · cases q
  · rw [List.getElem?_append_left hj] at ej
    have := ns_has l1 n (List.mem_of_getElem? ej)
    rw [nsP_nil l1 n c l2 ha] at this
    exact this.resolve_left (fun q => nomatch q)
theorem ok_Nmd {l : List It} {ms : List Str} (h : ok ms l) : Nmd l := by
  intro a ha
  have := ok_nmI h ha
  cases a <;> exact this
theorem ok_Cs {l : List It} (h : ok [] l) : Cs l := fun n c hm => by
  obtain ⟨i, hi⟩ := List.mem_iff_getElem?.mp hm
  exact (ok_count h hi).1
theorem pd_le : ∀ {l : List It}, (∀ n c, It.rep n c ∈ l → 1 ≤ c ∧ c < 2 ^ 31) → 1 ≤ pd l ∧ pd l ≤ ((2 ^ (31 * l.length) : Nat) : Int)
  | [], _ => by simp [pd]
  | .bar _ :: r, h => by
    obtain ⟨h1, h2⟩ := pd_le (l := r) fun n c hm => h n c (List.mem_cons_of_mem _ hm)
    refine ⟨h1, Int.le_trans h2 (Int.ofNat_le.mpr (Nat.pow_le_pow_right (by decide) (by simp only [List.length_cons]; omega)))⟩
  | .mark _ :: r, h => by
    obtain ⟨h1, h2⟩ := pd_le (l := r) fun n c hm => h n c (List.mem_cons_of_mem _ hm)
    refine ⟨h1, Int.le_trans h2 (Int.ofNat_le.mpr (Nat.pow_le_pow_right (by decide) (by simp only [List.length_cons]; omega)))⟩
  | .rep n c :: r, h => by
    obtain ⟨h1, h2⟩ := pd_le (l := r) fun n c hm => h n c (List.mem_cons_of_mem _ hm)
    obtain ⟨c1, c2⟩ := h n c List.mem_cons_self
    have e : 31 * (It.rep n c :: r).length = 31 + 31 * r.length := by rw [List.length_cons]; omega
    rw [e, Nat.pow_add, Int.natCast_mul]
    show 1 ≤ (c + 1) * pd r ∧ (c + 1) * pd r ≤ _
    generalize ((2 ^ (31 * r.length) : Nat) : Int) = p at *
    have m1 := Int.mul_le_mul (a := 1) (b := 1) (c := c + 1) (d := pd r) (by omega) h1 (by decide) (by omega)
    have m2 := Int.mul_le_mul (a := c + 1) (b := pd r) (c := ((2 ^ 31 : Nat) : Int)) (d := p) (by omega) h2 (by omega) (by omega)
    exact ⟨by omega, m2⟩
theorem pdB_ok {l : List It} (h : ok [] l) (hl : l.length ≤ 10000) : pdB (pd l) := by
  obtain ⟨h1, h2⟩ := pd_le (l := l) fun n c hm => by
    obtain ⟨i, hi⟩ := List.mem_iff_getElem?.mp hm
    exact ok_count h hi
  refine pdB.le ?_ h2
  unfold pdB
  rw [Int.toNat_natCast, Nat.log2_two_pow]
  omega
theorem nf_len (l : List It) : (nf l).length ≤ 2 * l.length := nfA_len _ _
theorem smB_adj {l : List It} (h : smB l = true) : adj l = false := by
  unfold smB at h
  rw [Bool.and_eq_true] at h
  simpa using h.2
def fs_are_equivalentX : FS := fun io ds Q X => io = none ∧ ∃ s t, ds = [s, t] ∧ ScV s True (X ⟨"InvalidScore", none⟩ none) fun l => (smB l = false → X ⟨"NotSimple", none⟩ none) ∧ (smB l = true → ScV t True (X ⟨"InvalidScore", none⟩ none) fun l' =>
  (smB l' = false → X ⟨"NotSimple", none⟩ none) ∧ (smB l' = true → Q (.sh (.bool (PyData.eqv (.list (sc (nf l))) (.list (sc (nf l')))))) none))
end SC

set_option Elab.async false
set_option linter.all false
set_option maxRecDepth 100000
namespace SC
open PySem L2 VL
def fs_law_mixed : FS := fun io ds Q _ => ∃ (c : Int) (xs : List D), io = some (.op 1 (.int c)) ∧ 0 ≤ c ∧ c ≤ 900000 ∧ ds = [.list xs] ∧ xs.length ≤ 1000 ∧ ∀ ys c', ys.Perm xs → c ≤ c' → c' ≤ c + 1000 → Q (.ow (.list ys)) (some (.op 1 (.int c')))
def w_law_mixed : WS := wSeq (wSet 2 (wCB (o1 oList) (wCons (wVar 1) (wNil)))) (wRet (wLc [3] (wiR1 (wCons (wCB (o1 oLen) (wCons (wVar 1) (wNil))) (wNil))) (wgName 3) (wYes) (wMut 2 fPop (wCons (wCallIo fs_law_drawX 0 [] (wCons (wCB (o1 oLen) (wCons (wVar 2) (wNil))) (wNil))) wNil))))
theorem perm_erase {xs : List D} {i : Nat} {d : D} (h : xs[i]? = some d) : (d :: xs.eraseIdx i).Perm xs := by
  induction xs generalizing i with
  | nil => simp at h
  | cons a xs ih =>
    cases i with
    | zero =>
      have : a = d := by simpa using h
      subst this
      exact List.Perm.refl _
    | succ i =>
      have := ih (i := i) (by simpa using h)
      exact (List.Perm.swap _ _ _).trans (this.cons a)
theorem fv_law_mixed : FnV fs_law_mixed 4 w_law_mixed := by
  rintro io ds Q X ⟨c, xs, rfl, c0, c1, rfl, hl, q⟩
  show w_law_mixed [.op 1 (.int c), .sh (.list xs), .no, .no] _ _
  simp [w_law_mixed, oList, ev_wLc, okW, wipeE]
  refine ⟨by omega, ?_⟩
  refine lc_inv (fun i acc Γ => ∃ (left : List D), Γ = [.op 1 (.int (c + i)), .sh (.list xs), .ow (.list left), .no] ∧ acc.length = i ∧ (acc ++ left).Perm xs) ⟨xs, by rw [show c + ((0 : Nat) : Int) = c by omega], rfl, List.Perm.refl _⟩ ?_ ?_
  · rintro i d acc Γ k hd ⟨left, rfl, ha, hp⟩ hk
    have hi := (List.getElem?_eq_some_iff.mp hd).1
    simp [rangeD] at hi
    have hlen := hp.length_eq
    rw [List.length_append] at hlen
    simp [lcT]
    refine dk (by omega) (by omega) (by omega) (by omega) fun r r0 r1 => ?_
    obtain ⟨j, rfl⟩ : ∃ j : Nat, r = (j : Int) := ⟨r.toNat, by omega⟩
    have hj : j < left.length := by omega
    have hjd := List.getElem?_eq_getElem hj
    have hpe := perm_erase hjd
    simp
    refine fPop_i (d := left[j]) r0 (by simpa using hjd) (by omega) ?_
    simp [wipeE]
    refine ⟨small (by omega), hk _ _ ⟨left.eraseIdx j, by rw [show c + ((i + 1 : Nat) : Int) = c + i + 1 by omega], by simp [ha], ?_⟩⟩
    rw [List.append_assoc]
    exact (List.Perm.append_left acc hpe).trans hp
  · rintro acc Γ ⟨left, rfl, ha, hp⟩
    simp [rangeD] at ha ⊢
    have hlen := hp.length_eq
    rw [List.length_append] at hlen
    have : left = [] := List.length_eq_zero_iff.mp (by omega)
    subst this
    rw [List.append_nil] at hp
    simp [restE]
    exact q _ _ hp (by omega) (by omega)
def smp_mb : WS := wSeq (wDrop (wMut 4 fAppend (wCons (wMut 5 fPop (wCons (wCallIo fs_law_drawX 0 [] (wCons (wCB (o1 oLen) (wCons (wVar 5) (wNil))) (wNil))) wNil)) wNil))) (wDrop (wMut 3 fAppend (wCons (wTup (wCons (wC (.str "mark")) (wCons (wOp oIx (wVar 4) (wUn (fun a k => isI a fun i => k (.sh (.int (-i)))) (wC (.int 1)))) (wNil)))) wNil)))
def smp_M : WS := wFor (wiR1 (wCons (wOp oMul (wVar 8) (wCB (o1 oInt) (wCons (wOp (oIB fun i j => decide (j < i)) (wCB (o1 oLen) (wCons (wVar 5) (wNil))) (wC (.int 8))) (wNil)))) (wNil))) (wgName 9) smp_mb
def smp_rb : WS := wSeq (wSet 10 (wOp oIx (wLst (wCons (wOp (oII (fun _ _ => True) (· - ·)) (wCB (o1 oLen) (wCons (wVar 4) (wNil))) (wC (.int 1))) (wCons (wCallIo fs_law_drawX 0 [] (wCons (wCB (o1 oLen) (wCons (wVar 4) (wNil))) (wNil))) (wNil)))) (wCallIo fs_law_drawX 0 [] (wCons (wC (.int 2)) (wNil))))) (wSeq (wSet 11 (wOp oAdd (wC (.int 1)) (wOp oIx (wLst (wCons (wCallIo fs_law_drawX 0 [] (wCons (wC (.int 2)) (wNil))) (wCons (wCallIo fs_law_drawX 0 [] (wCons (wVar 2) (wNil))) (wNil)))) (wCallIo fs_law_drawX 0 [] (wCons (wC (.int 2)) (wNil)))))) (wDrop (wMut 3 fAppend (wCons (wTup (wCons (wC (.str "repeat")) (wCons (wOp oIx (wVar 4) (wVar 10)) (wCons (wVar 11) (wNil))))) wNil))))
def smp_R : WS := wFor (wiR1 (wCons (wOp oMul (wVar 8) (wCB (o1 oInt) (wCons (wOp oNe (wVar 4) (wLst (wNil))) (wNil)))) (wNil))) (wgName 9) smp_rb
def smp_body : WS := wSeq (wSet 8 (wOp oMul (wOp oIx (wLst (wCons (wC (.int 0)) (wCons (wC (.int 1)) (wCons (wC (.int 1)) (wCons (wC (.int 2)) (wNil)))))) (wCallIo fs_law_drawX 0 [] (wCons (wC (.int 4)) (wNil)))) (wOp oIx (wLst (wCons (wC (.int 1)) (wCons (wC (.int 1)) (wCons (wC (.int 1)) (wCons (wC (.int 3)) (wNil)))))) (wCallIo fs_law_drawX 0 [] (wCons (wC (.int 4)) (wNil)))))) (wSeq smp_M (wSeq (wDrop (wMut 3 fAppend (wCons (wTup (wCons (wC (.str "bar")) (wCons (wOp oIx (wLst (wCons (wVar 7) (wCons (wOp oAdd (wVar 7) (wC (.str "z"))) (wNil)))) (wCallIo fs_law_drawX 0 [] (wCons (wC (.int 2)) (wNil)))) (wNil)))) wNil))) (wSeq (wSet 8 (wOp oMul (wOp oIx (wLst (wCons (wC (.int 0)) (wCons (wC (.int 0)) (wCons (wC (.int 1)) (wCons (wC (.int 1)) (wCons (wC (.int 2)) (wCons (wC (.int 3)) (wNil)))))))) (wCallIo fs_law_drawX 0 [] (wCons (wC (.int 6)) (wNil)))) (wOp oIx (wLst (wCons (wC (.int 1)) (wCons (wC (.int 1)) (wCons (wC (.int 1)) (wCons (wC (.int 3)) (wNil)))))) (wCallIo fs_law_drawX 0 [] (wCons (wC (.int 4)) (wNil)))))) smp_R)))
def poolN : List Str := ("abcdefghijklmnop" : Str).cps.toList.map fun c => (⟨#[c]⟩ : Str)
theorem z_len : ("z" : Str).length = 1 := by decide +kernel
theorem DkI.mono {l : List It} {ms us : List Str} {i j : Nat} (I : DkI l ms us i) (h : i ≤ j) : DkI l ms us j := by
  have h1 := I.hl; have h2 := I.ul; have h3 := I.ln; have h4 := I.ml
  exact ⟨I.h, by omega, I.mm, I.un, I.nd, I.ul, by omega, I.nm, by omega⟩
abbrev smE (cc most wide : Int) (l : List It) (ms us : List Str) (s6 a7 a8 a9 a10 a11 : Sl) : Ev := [.op 1 (.int cc), .sh (.int most), .sh (.int wide), .ow (.list (sc l)), .ow (.list (ms.map .str)), .ow (.list (us.map .str)), s6, a7, a8, a9, a10, a11]
def NL (ms us : List Str) : Prop := (∀ x ∈ ms, x ∈ mkN) ∧ ∀ x ∈ us, x ∈ mkN
theorem NL.step {ms us : List Str} (h : NL ms us) {j : Nat} {n : Str} (hn : us[j]? = some n) : NL (ms ++ [n]) (us.eraseIdx j) := by
  refine ⟨fun x hx => ?_, fun x hx => h.2 x (List.mem_of_mem_eraseIdx hx)⟩
  rcases List.mem_append.mp hx with z | z
  · exact h.1 x z
  · have : x = n := by simpa using z
    subst this
    exact h.2 x (List.mem_of_getElem? hn)
theorem smp_pre {l : List It} (h : ok [] l) (k : Nat) : ok [] (l.take k) := ((ok_app (l.take k) (l.drop k) []).mp (by rw [List.take_append_drop]; exact h)).1
theorem mk_keep : ∀ {l : List It} {ms : List Str} {n : Str}, n ∈ ms → n ∈ mk ms l
  | [], _, _, h => h
  | .bar _ :: l, _, _, h => mk_keep (l := l) h
  | .rep _ _ :: l, _, _, h => mk_keep (l := l) h
  | .mark m :: l, _, _, h => mk_keep (l := l) (List.mem_cons_of_mem _ h)
theorem mk_in : ∀ {l : List It} {ms : List Str} {n : Str}, It.mark n ∈ l → n ∈ mk ms l
  | it :: l, ms, n, h => by
    rcases List.mem_cons.mp h with rfl | h1
    · exact mk_keep (l := l) List.mem_cons_self
    · cases it with
      | bar m => exact mk_in (l := l) h1
      | rep m c => exact mk_in (l := l) h1
      | mark m => exact mk_in (l := l) h1
theorem last_ok : nameB "last" = true := by decide +kernel
theorem mkN_last : ∀ x ∈ mkN, x ≠ "last" := by decide +kernel
end SC

set_option Elab.async false
set_option linter.all false
set_option maxRecDepth 100000
set_option pp.maxSteps 600
namespace SC
open PySem L2 VL
theorem adj_cons2 (a b : It) (r : List It) : adj (a :: b :: r) = ((itMark a && itRep b) || adj (b :: r)) := rfl
theorem adj_snoc (l : List It) (a : It) (h : adj l = false) (ha : itRep a = false ∨ ∀ b, l.getLast? = some b → itMark b = false) : adj (l ++ [a]) = false := by
  induction l with
  | nil => rfl
  | cons x l ih =>
    cases l with
    | nil =>
      show ((itMark x && itRep a) || adj [a]) = false
      rcases ha with ha | ha
      · rw [ha]; simp; rfl
      · rw [ha x rfl]; simp; rfl
    | cons y l =>
      rw [adj_cons2, Bool.or_eq_false_iff] at h
      show ((itMark x && itRep y) || adj (y :: l ++ [a])) = false
      rw [h.1, ih h.2 (ha.imp id fun q b e => q b (by rw [List.getLast?_cons_cons]; exact e))]
      rfl
theorem adj_marks (M : List It) : ∀ l : List It, adj l = false → M.all itMark = true → adj (l ++ M) = false := by
  induction M with
  | nil => intro l h _; rwa [List.append_nil]
  | cons a M ih =>
    intro l h hM
    rw [List.all_cons, Bool.and_eq_true] at hM
    have := ih (l ++ [a]) (adj_snoc l a h (.inl (by cases a <;> first | rfl | cases hM.1))) hM.2
    rwa [List.append_assoc] at this
theorem adj_reps (M : List It) : ∀ l : List It, adj l = false → (∀ b, l.getLast? = some b → itMark b = false) → M.all itRep = true → adj (l ++ M) = false := by
  induction M with
  | nil => intro l h _ _; rwa [List.append_nil]
  | cons a M ih =>
    intro l h hl hM
    rw [List.all_cons, Bool.and_eq_true] at hM
    have := ih (l ++ [a]) (adj_snoc l a h (.inr hl)) (fun b e => by
      rw [List.getLast?_append] at e
      have : a = b := by simpa using e
      subst this
      cases a <;> first | rfl | cases hM.1) hM.2
    rwa [List.append_assoc] at this
theorem adj_pre : ∀ {a b : List It}, adj (a ++ b) = false → adj a = false
  | [], _, _ => rfl
  | [_], _, _ => rfl
  | x :: y :: r, b, h => by
    have h : ((itMark x && itRep y) || adj (y :: r ++ b)) = false := h
    rw [Bool.or_eq_false_iff] at h
    rw [adj_cons2, h.1, adj_pre h.2]
    rfl
theorem bN_marks : ∀ {M : List It}, M.all itMark = true → bN M = []
  | [], _ => rfl
  | .mark _ :: M, h => bN_marks (M := M) h
theorem bN_reps : ∀ {M : List It}, M.all itRep = true → bN M = []
  | [], _ => rfl
  | .rep _ _ :: M, h => bN_reps (M := M) h
theorem smB_of {l : List It} (h1 : (bN l).Nodup) (h2 : adj l = false) : smB l = true := by
  unfold smB
  rw [h2, (dct_nodup (bN l) (bN l).length (Nat.le_refl _)).mpr (by rw [List.take_length]; exact h1)]
  simp
theorem smB_pre {a b : List It} (h1 : (bN (a ++ b)).Nodup) (h2 : adj (a ++ b) = false) : smB a = true := by
  rw [bN_app] at h1
  exact smB_of (List.nodup_append.mp h1).1 (adj_pre h2)
def poolF : List Str := poolN ++ (("abcdefghijklmnopqrstuvwxyz" : Str).cps.toList.map fun c => ("q" : Str) ++ (⟨#[c]⟩ : Str)) ++ (("abcdefghijklmnopqrstuvwxyz" : Str).cps.toList.map fun c => ("r" : Str) ++ (⟨#[c]⟩ : Str))
def poolM (most : Int) : List Str := if 16 < most then poolF else poolN
theorem poolF_ok : ∀ x ∈ poolF, nameB x = true ∧ nameB (x ++ "z") = true ∧ x.length ≤ 2 := by decide +kernel
theorem poolF_len : poolF.length = 68 := by decide +kernel
theorem poolF_nd : poolF.Nodup := by decide +kernel
theorem poolF_two : ∀ x ∈ poolF, ∀ y ∈ poolF, x ≠ y → x ≠ y ++ "z" ∧ x ++ "z" ≠ y ++ "z" := by decide +kernel
theorem pool_sub : ∀ x ∈ poolN, x ∈ poolF := fun x h => List.mem_append_left _ (List.mem_append_left _ h)
def Nv (nm x : Str) : Prop := nm = x ∨ nm = x ++ "z"
theorem nv_inj {a b x y : Str} (hx : x ∈ poolF) (hy : y ∈ poolF) (ha : Nv a x) (hb : Nv b y) (h : a = b) : x = y := by
  by_cases e : x = y
  · exact e
  · have h1 := poolF_two x hx y hy e
    have h2 := poolF_two y hy x hx (Ne.symm e)
    rcases ha with rfl | rfl <;> rcases hb with rfl | rfl
    · exact absurd h e
    · exact absurd h h1.1
    · exact absurd h.symm h2.1
    · exact absurd h h1.2
inductive Nvs : List Str → List Str → Prop
  | nil : Nvs [] []
  | snoc {ns xs : List Str} {n x : Str} : Nvs ns xs → Nv n x → Nvs (ns ++ [n]) (xs ++ [x])
theorem Nvs.mem {ns xs : List Str} (h : Nvs ns xs) : ∀ n ∈ ns, ∃ x ∈ xs, Nv n x := by
  induction h with
  | nil => intro n hn; cases hn
  | snoc h hv ih =>
    intro n hn
    rcases List.mem_append.mp hn with hn | hn
    · obtain ⟨x, hx, h⟩ := ih n hn
      exact ⟨x, List.mem_append_left _ hx, h⟩
    · rw [List.mem_singleton.mp hn]
      exact ⟨_, List.mem_append_right _ (List.mem_singleton.mpr rfl), hv⟩
theorem Nvs.len {ns xs : List Str} (h : Nvs ns xs) : ns.length = xs.length := by
  induction h with
  | nil => rfl
  | snoc h hv ih => simp [ih]
theorem Nvs.nodup {ns xs : List Str} (h : Nvs ns xs) (hp : ∀ x ∈ xs, x ∈ poolF) (hn : xs.Nodup) : ns.Nodup := by
  induction h with
  | nil => exact hn
  | @snoc ns xs n x h hv ih =>
    obtain ⟨h1, h2, h3⟩ := List.nodup_append.mp hn
    refine List.nodup_append.mpr ⟨ih (fun x hx => hp x (List.mem_append_left _ hx)) h1, by simp, fun a ha b hb e => ?_⟩
    have hb := List.mem_singleton.mp hb
    obtain ⟨y, hy, hay⟩ := h.mem a ha
    have := nv_inj (hp y (List.mem_append_left _ hy)) (hp x (by simp)) hay hv (by rw [e, hb])
    exact h3 y hy x (by simp) this
def unS : D → Str
  | .str x => x
  | _ => ""
theorem perm_strs {ys : List D} {ps : List Str} (h : ys.Perm (ps.map .str)) : ∃ xs : List Str, ys = xs.map .str ∧ xs.Perm ps := by
  refine ⟨ys.map unS, ?_, ?_⟩
  · rw [List.map_map]
    symm
    have : ∀ y ∈ ys, (PyData.str ∘ unS) y = id y := fun y hy => by
      obtain ⟨x, _, rfl⟩ := List.mem_map.mp (h.mem_iff.mp hy)
      rfl
    rw [List.map_congr_left this, List.map_id]
  · have := h.map unS
    rwa [List.map_map, show (unS ∘ PyData.str) = id from rfl, List.map_id] at this
theorem smp_marksE {l : List It} {ms us : List Str} {i : Nat} (I : DkI l ms us i) (hL : NL ms us) (hi : i ≤ 2000) (cc most wide : Int) (c0 : 0 ≤ cc) (c1 : cc ≤ 900000) (s6 a7 a9 a10 a11 : Sl) (many : Int) (m0 : 0 ≤ many) (m1 : many ≤ 6) (k : VL.WD) (X : VL.XW)
    (q : ∀ l1 ms us cc' a9, (∃ M : List It, l1 = l ++ M ∧ M.all itMark = true) → DkI l1 ms us (i + 6) → NL ms us → cc ≤ cc' → cc' ≤ cc + 6 → k.nx (smE cc' most wide l1 ms us s6 a7 (.sh (.int many)) a9 a10 a11)) : smp_M (smE cc most wide l ms us s6 a7 (.sh (.int many)) a9 a10 a11) k X := by
  simp [smp_M, ev_wFor]
  have hm : CMulW many (if 8 < (us.length : Int) then 1 else 0) := mul_ok (b := 8) (by omega) (by split <;> decide) (by decide) (by decide)
  obtain ⟨T, hT, hT6, hT8⟩ : ∃ T : Nat, (many * if 8 < (us.length : Int) then 1 else 0) = (T : Int) ∧ T ≤ 6 ∧ (0 < T → 8 < us.length) := by
    refine ⟨(many * if 8 < (us.length : Int) then 1 else 0).toNat, ?_, ?_, ?_⟩
    · split <;> omega
    · split <;> omega
    · split <;> omega
  rw [hT]
  refine ⟨hm, by omega, by omega, ?_⟩
  simp
  refine loop_inv (fun j Γ => ∃ (l' : List It) (ms' us' : List Str) (a9 : Sl), Γ = smE (cc + j) most wide l' ms' us' s6 a7 (.sh (.int many)) a9 a10 a11 ∧ DkI l' ms' us' (i + j) ∧ us'.length + j = us.length ∧ NL ms' us' ∧ ∃ M : List It, l' = l ++ M ∧ M.all itMark = true) ⟨l, ms, us, a9, by simp, I, rfl, hL, [], by simp, rfl⟩ ?_ ?_
  · rintro j x Γ k2 hx ⟨l', ms', us', a9, rfl, I2, hu, hL2, M, hM1, hM2⟩ hk
    have hj := (List.getElem?_eq_some_iff.mp hx).1
    simp [rangeD] at hj
    have h8 := hT8 (by omega)
    have hll := I2.hl
    have hml := I2.ml
    have hul := I2.ul
    have hz1 : l'.length < sizeLine := Nat.lt_of_lt_of_le (Nat.lt_succ_self _) (smallE (by omega))
    have hz2 : ms'.length < sizeLine := Nat.lt_of_lt_of_le (Nat.lt_succ_self _) (smallE (by omega))
    simp [smp_mb]
    refine dk (by omega) (by omega) (by omega) (by omega) fun r r0 r1 => ?_
    obtain ⟨jn, rfl⟩ : ∃ jn : Nat, r = (jn : Int) := ⟨r.toNat, by omega⟩
    obtain ⟨n, hn1⟩ : ∃ n, us'[jn]? = some n := ⟨_, List.getElem?_eq_getElem (by omega)⟩
    have hm2 : (us'.map PyData.str)[jn]? = some (.str n) := by rw [List.getElem?_map, hn1]; rfl
    simp
    refine fPop_i (d := .str n) r0 (by simpa using hm2) (by rw [List.length_map]; omega) ?_
    have lst : (ms'.map PyData.str ++ [PyData.str n]).getLast? = some (.str n) := by simp
    have iy := fun k => ix_lastE (k := k) lst
    have ew : (us'.eraseIdx jn).length = us'.length - 1 := by rw [List.length_eraseIdx]; simp [(List.getElem?_eq_some_iff.mp hn1).1]
    simp [iy, sc_length]
    exact ⟨hz2, hz1, hk _ ⟨l' ++ [.mark n], ms' ++ [n], us'.eraseIdx jn, _, (by simp [smE, sc, It.d, erase_map]; refine ⟨?_, rfl⟩; omega), I2.mark hn1, by omega, hL2.step hn1, M ++ [.mark n], by rw [hM1, List.append_assoc], by rw [List.all_append, hM2]; rfl⟩⟩
  · rintro Γ ⟨l', ms', us', a9, rfl, I2, hu, hL2, hM⟩
    simp [rangeD]
    simp [rangeD] at I2 hu
    exact q _ _ _ _ _ hM (I2.mono (by omega)) hL2 (by omega) (by omega)
theorem smp_repsE {l : List It} {ms us : List Str} {i : Nat} (I : DkI l ms us i) (hi : i ≤ 2000) (cc most wide : Int) (w0 : 0 < wide) (w1 : wide ≤ 1000000000) (c0 : 0 ≤ cc) (c1 : cc ≤ 900000) (s6 a7 a9 a10 a11 : Sl) (many : Int) (m0 : 0 ≤ many) (m1 : many ≤ 9) (k : VL.WD) (X : VL.XW)
    (q : ∀ l1 cc' a9 a10 a11, (∃ M : List It, l1 = l ++ M ∧ M.all itRep = true ∧ ∀ x c, It.rep x c ∈ M → c ≤ 1000000000) → DkI l1 ms us (i + 9) → cc ≤ cc' → cc' ≤ cc + 45 → k.nx (smE cc' most wide l1 ms us s6 a7 (.sh (.int many)) a9 a10 a11)) : smp_R (smE cc most wide l ms us s6 a7 (.sh (.int many)) a9 a10 a11) k X := by
  simp [smp_R, ev_wFor]
  have shm : SeqAt.shaped (.list (ms.map .str)) = true := shaped_strs fun n hn => name_strOk (I.nm n hn)
  have sh0 : SeqAt.shaped (.list []) = true := shaped_strs (ys := []) fun n hn => (nomatch hn)
  have em : PyData.eqv (.list (ms.map .str)) (.list []) = decide (ms = []) := eqv_strs ms []
  rw [em]
  have hm : CMulW many (if decide (ms = []) = false then 1 else 0) := mul_ok (b := 8) (by omega) (by split <;> decide) (by decide) (by decide)
  obtain ⟨T, hT, hT6, hT8⟩ : ∃ T : Nat, (many * if decide (ms = []) = false then 1 else 0) = (T : Int) ∧ T ≤ 9 ∧ (0 < T → ms ≠ []) := by
    refine ⟨(many * if decide (ms = []) = false then 1 else 0).toNat, ?_, ?_, ?_⟩
    · split <;> omega
    · split <;> omega
    · intro h0 e
      rw [decide_eq_true e] at h0
      simp at h0
  rw [hT]
  refine ⟨shm, sh0, hm, by omega, by omega, ?_⟩
  simp
  refine loop_inv (fun j Γ => ∃ (l' : List It) (cc' : Int) (a9 a10 a11 : Sl), Γ = smE cc' most wide l' ms us s6 a7 (.sh (.int many)) a9 a10 a11 ∧ DkI l' ms us (i + j) ∧ cc ≤ cc' ∧ cc' ≤ cc + 5 * j ∧ (0 < j → j ≤ 9) ∧ ∃ M : List It, l' = l ++ M ∧ M.all itRep = true ∧ ∀ x c, It.rep x c ∈ M → c ≤ 1000000000) ⟨l, cc, a9, a10, a11, rfl, I, by omega, by omega, by omega, [], by simp, rfl, fun _ _ h => nomatch h⟩ ?_ ?_
  · rintro j x Γ k2 hx ⟨l', cc', a9, a10, a11, rfl, I2, d0, d1, d2, M, hM1, hM2, hM4⟩ hk
    have hj := (List.getElem?_eq_some_iff.mp hx).1
    simp [rangeD] at hj
    have hms := List.length_pos_iff.mpr (hT8 (by omega))
    have hll := I2.hl
    have hml := I2.ml
    have hz1 : l'.length < sizeLine := Nat.lt_of_lt_of_le (Nat.lt_succ_self _) (smallE (by omega))
    simp [smp_rb]
    refine dk (by omega) (by omega) (by omega) (by omega) fun ra ra0 ra1 => ?_
    simp
    refine dk (by omega) (by omega) (by omega) (by omega) fun rb rb0 rb1 => ?_
    have hidx : ∃ v : Nat, v < ms.length ∧ ∀ k : R → Prop, oIx (.list [.int ((ms.length : Int) - 1), .int ra]) (.int rb) k = k (.sh (.int (v : Int))) := by
      rcases two rb0 rb1 with rfl | rfl
      · exact ⟨ms.length - 1, by omega, fun k => by rw [show ((ms.length - 1 : Nat) : Int) = (ms.length : Int) - 1 by omega]; rfl⟩
      · exact ⟨ra.toNat, by omega, fun k => by rw [Int.toNat_of_nonneg ra0]; rfl⟩
    obtain ⟨v, v1, hv⟩ := hidx
    simp [hv]
    refine dk (by omega) (by omega) (by omega) (by omega) fun ja ja0 ja1 => ?_
    simp
    refine dk (by omega) (by omega) (by omega) (by omega) fun jb jb0 jb1 => ?_
    simp
    refine dk (by omega) (by omega) (by omega) (by omega) fun jc jc0 jc1 => ?_
    have hidx2 : ∃ v : Int, 0 ≤ v ∧ v < 1000000000 ∧ ∀ k : R → Prop, oIx (.list [.int ja, .int jb]) (.int jc) k = k (.sh (.int v)) := by
      rcases two jc0 jc1 with rfl | rfl
      · exact ⟨ja, by omega, by omega, fun k => rfl⟩
      · exact ⟨jb, by omega, by omega, fun k => rfl⟩
    obtain ⟨u, u0, u1, hu⟩ := hidx2
    obtain ⟨n, hn1⟩ : ∃ n, ms[v]? = some n := ⟨_, List.getElem?_eq_getElem v1⟩
    have hm2 : (ms.map PyData.str)[v]? = some (.str n) := by rw [List.getElem?_map, hn1]; rfl
    have iy := fun k => ix_lnE (k := k) hm2
    simp [hu, iy, sc_length]
    exact ⟨hz1, hk _ ⟨l' ++ [.rep n (1 + u)], cc' + 1 + 1 + 1 + 1 + 1, _, _, _, (by simp [smE, sc, It.d]; exact ⟨rfl, rfl, rfl⟩), I2.rep (List.mem_of_getElem? hn1) (by omega) (by omega), by omega, by omega, by omega, M ++ [.rep n (1 + u)], by rw [hM1, List.append_assoc], by rw [List.all_append, hM2]; rfl, fun y e h => by
      rcases List.mem_append.mp h with h | h
      · exact hM4 y e h
      · cases (List.mem_singleton.mp h); omega⟩⟩
  · rintro Γ ⟨l', cc', a9, a10, a11, rfl, I2, d0, d1, d2, hM⟩
    simp [rangeD] at I2 d1
    exact q _ _ _ _ _ hM (I2.mono (by omega)) (by omega) (by omega)
def fs_law_simpleE : FS := fun io ds Q _ => ∃ (c most wide : Int), io = some (.op 1 (.int c)) ∧ 0 ≤ c ∧ c ≤ 800000 ∧ ds = [.int most, .int wide] ∧ 0 ≤ most ∧ most ≤ 60 ∧ 0 < wide ∧ wide ≤ 1000000000 ∧
  ∀ (l : List It) (c' : Int), ok [] l → l.length ≤ 280 → (l.length : Int) ≤ 16 * most + 1 → smB l = true → (bN l).length ≤ 68 → (∀ n, It.mark n ∈ l → n ∈ mkN ∨ n = "last") → (∀ x c, It.rep x c ∈ l → c ≤ 1000000000) → (∀ x ∈ bN l, ∃ y ∈ poolF, Nv x y) → c ≤ c' → c' ≤ c + 6000 → Q (.ow (.list (sc l))) (some (.op 1 (.int c')))
def smp_from : WS := wSeq (wFor (wiL (wSlL (wCallIo fs_law_mixed 0 [] (wCons (wVar 6) (wNil))) (wNoP) (wPart (wCallIo fs_law_drawX 0 [] (wCons (wOp oAdd (wVar 1) (wC (.int 1))) (wNil)))))) (wgName 7) smp_body) (wSeq (wIfS (wT (wOp oEq (wCallIo fs_law_drawX 0 [] (wCons (wC (.int 4)) (wNil))) (wC (.int 0)))) (wDrop (wMut 3 fAppend (wCons (wTup (wCons (wC (.str "mark")) (wCons (wC (.str "last")) (wNil)))) wNil))) (wNext)) (wRet (wSlL (wVar 3) (wNoP) (wPart (wC (.int 280))))))
def w_law_simpleE : WS := wSeq (wPar [3, 4, 5] (wsCons (wLst (wNil)) (wsCons (wLst (wNil)) (wsCons (wCall fs_law_mark_names [] (wNil)) (wsNil))))) (wSeq (wSet 6 (wCB (o1 oListS) (wCons (wC (.str "abcdefghijklmnop")) (wNil)))) (wSeq (wIfS (wT (wOp (oIB fun i j => decide (j < i)) (wVar 1) (wC (.int 16)))) (wSeq (wSet 6 (wOp oAdd (wVar 6) (wLc [7] (wiS (wC (.str "abcdefghijklmnopqrstuvwxyz"))) (wgName 7) (wYes) (wOp oAdd (wC (.str "q")) (wVar 7))))) (wSet 6 (wOp oAdd (wVar 6) (wLc [7] (wiS (wC (.str "abcdefghijklmnopqrstuvwxyz"))) (wgName 7) (wYes) (wOp oAdd (wC (.str "r")) (wVar 7)))))) (wNext)) smp_from))
theorem fv_smp_from {c most wide : Int} {Dn : VL.WD} {X : VL.XW} (c0 : 0 ≤ c) (c1 : c ≤ 800000) (m0 : 0 ≤ most) (m1 : most ≤ 60) (w0 : 0 < wide) (w1 : wide ≤ 1000000000)
    (q : ∀ (l : List It) (c' : Int) (Γ : Ev), ok [] l → l.length ≤ 280 → (l.length : Int) ≤ 16 * most + 1 → smB l = true → (bN l).length ≤ 68 → (∀ n, It.mark n ∈ l → n ∈ mkN ∨ n = "last") → (∀ x c, It.rep x c ∈ l → c ≤ 1000000000) → (∀ x ∈ bN l, ∃ y ∈ poolF, Nv x y) → c ≤ c' → c' ≤ c + 6000 → (∃ l0 ms us s6 a7 a8 a9 a10 a11, Γ = smE c' most wide l0 ms us s6 a7 a8 a9 a10 a11) → Dn.rt (.ow (.list (sc l))) Γ)
    (s7 : VL.Sl) : smp_from [.op 1 (.int c), .sh (.int most), .sh (.int wide), .ow (.list []), .ow (.list []), .ow (.list (mkN.map .str)), .ow (.list ((poolM most).map .str)), s7, .no, .no, .no, .no] Dn X := by
  have hpl : (poolM most).length ≤ 68 := by
    unfold poolM
    split
    · rw [poolF_len]; decide
    · rw [show poolN.length = 16 by decide +kernel]; decide
  have hpF : ∀ x ∈ poolM most, x ∈ poolF := fun x hx => by
    unfold poolM at hx
    split at hx
    · exact hx
    · exact pool_sub x hx
  have hpN : (poolM most).Nodup := by
    unfold poolM
    split
    · exact poolF_nd
    · have := poolF_nd
      unfold poolF at this
      rw [List.append_assoc] at this
      exact (List.nodup_append.mp this).1
  simp [smp_from]
  refine ⟨c, (poolM most).map .str, rfl, c0, by omega, rfl, by simp; omega, fun ys c' hys g0 g1 => ?_⟩
  simp
  refine dk (by omega) (by omega) (by omega) (by omega) fun r r0 r1 => ?_
  obtain ⟨j, rfl⟩ : ∃ j : Nat, r = (j : Int) := ⟨r.toNat, by omega⟩
  simp [cut_takeG, ev_wFor]
  obtain ⟨xs0, rfl, hxp⟩ := perm_strs hys
  have hyl : (xs0.take j).length ≤ 68 := by rw [List.length_take]; have := hxp.length_eq; omega
  have hyj : (xs0.take j).length ≤ j := by rw [List.length_take]; omega
  have hyF : ∀ x ∈ xs0.take j, x ∈ poolF := fun x hx => hpF x (hxp.mem_iff.mp (List.mem_of_mem_take hx))
  have hyN : (xs0.take j).Nodup := (List.take_sublist j xs0).nodup (hxp.nodup_iff.mpr hpN)
  rw [← List.map_take]
  generalize xs0.take j = xs at *
  refine loop_inv (fun i Γ => ∃ (cc : Int) (l : List It) (ms us : List Str) (s6 a7 a8 a9 a10 a11 : Sl), Γ = smE cc most wide l ms us s6 a7 a8 a9 a10 a11 ∧ DkI l ms us (16 * i) ∧ NL ms us ∧ c' + 1 ≤ cc ∧ cc ≤ c' + 1 + 60 * i ∧ Nvs (bN l) (xs.take i) ∧ adj l = false ∧ ∀ x c, It.rep x c ∈ l → c ≤ 1000000000) ⟨c' + 1, [], [], mkN, _, _, _, _, _, _, rfl, ⟨trivial, Nat.le_refl _, fun x => by simp [mk], fun x hx => ⟨mkN_ok.2.1 x hx, by simp⟩, mkN_ok.2.2, by rw [mkN_ok.1]; decide, by rw [mkN_ok.1]; decide, fun x hx => by simp at hx, Nat.le_refl _⟩, ⟨fun x hx => by simp at hx, fun x hx => hx⟩, by omega, by omega, by simpa [bN] using Nvs.nil, rfl, fun _ _ h => nomatch h⟩ ?_ ?_
  · rintro i y Γ k hy ⟨cc, l, ms, us, s6, a7, a8, a9, a10, a11, rfl, I, hL, d0, d1, hV, hA, hB⟩ hk
    have hi := (List.getElem?_eq_some_iff.mp hy).1
    rw [List.getElem?_map] at hy
    obtain ⟨x, hxi, rfl⟩ := Option.map_eq_some_iff.mp hy
    obtain ⟨x1, x2, x3⟩ := poolF_ok x (hyF x (List.mem_of_getElem? hxi))
    simp at hi
    have hi2 : i < 68 := by omega
    have zl := z_len
    simp [smp_body]
    refine dk (by omega) (by omega) (by omega) (by omega) fun r r0 r1 => ?_
    simp
    refine pick r0 (by simpa using r1) fun z hz => ?_
    obtain ⟨v, rfl, v0, v1⟩ : ∃ v : Int, z = .int v ∧ 0 ≤ v ∧ v ≤ 2 := by
      simp at hz
      rcases hz with rfl | rfl | rfl
      all_goals exact ⟨_, rfl, by decide, by decide⟩
    simp
    refine dk (by omega) (by omega) (by omega) (by omega) fun r2 r20 r21 => ?_
    simp
    refine pick r20 (by simpa using r21) fun z hz => ?_
    obtain ⟨w, rfl, hw⟩ : ∃ w : Int, z = .int w ∧ (w = 1 ∨ w = 3) := by
      simp at hz
      rcases hz with rfl | rfl
      · exact ⟨_, rfl, .inl rfl⟩
      · exact ⟨_, rfl, .inr rfl⟩
    have hm : CMulW v w := mul_ok (b := 8) (by omega) (by rcases hw with rfl | rfl <;> decide) (by decide) (by decide)
    have hvw : 0 ≤ v * w ∧ v * w ≤ 6 := by rcases hw with rfl | rfl <;> omega
    simp [hm]
    generalize v * w = many at *
    refine smp_marksE I hL (by omega) _ most wide (by omega) (by omega) s6 _ a9 a10 a11 many hvw.1 hvw.2 _ _ fun l2 ms2 us2 c2 b9 hM2 I2 hL2 e0 e1 => ?_
    have hll2 := I2.hl
    have hz1 : l2.length < sizeLine := Nat.lt_of_lt_of_le (Nat.lt_succ_self _) (smallE (by omega))
    have hz2 : x.length + 1 ≤ sizeLine := smallE (by omega)
    simp [zl]
    refine ⟨hz2, ?_⟩
    refine dk (by omega) (by omega) (by omega) (by omega) fun r3 r30 r31 => ?_
    simp
    refine pick r30 (by simpa using r31) fun z hz => ?_
    obtain ⟨nm, rfl, hnm, hnv⟩ : ∃ nm, z = .str nm ∧ nameB nm = true ∧ Nv nm x := by
      simp at hz
      rcases hz with rfl | rfl
      · exact ⟨_, rfl, x1, .inl rfl⟩
      · exact ⟨_, rfl, x2, .inr rfl⟩
    have I3 := I2.bar hnm
    have eE : sc l2 ++ [.tuple [.str "bar", .str nm]] = sc (l2 ++ [.bar nm]) := by simp [sc, It.d]
    simp [sc_length, eE]
    refine ⟨hz1, ?_⟩
    refine dk (by omega) (by omega) (by omega) (by omega) fun r4 r40 r41 => ?_
    simp
    refine pick r40 (by simpa using r41) fun z hz => ?_
    obtain ⟨v, rfl, v0, v1⟩ : ∃ v : Int, z = .int v ∧ 0 ≤ v ∧ v ≤ 3 := by
      simp at hz
      rcases hz with rfl | rfl | rfl | rfl
      all_goals exact ⟨_, rfl, by decide, by decide⟩
    simp
    refine dk (by omega) (by omega) (by omega) (by omega) fun r5 r50 r51 => ?_
    simp
    refine pick r50 (by simpa using r51) fun z hz => ?_
    obtain ⟨w, rfl, hw⟩ : ∃ w : Int, z = .int w ∧ (w = 1 ∨ w = 3) := by
      simp at hz
      rcases hz with rfl | rfl
      · exact ⟨_, rfl, .inl rfl⟩
      · exact ⟨_, rfl, .inr rfl⟩
    have hm : CMulW v w := mul_ok (b := 8) (by omega) (by rcases hw with rfl | rfl <;> decide) (by decide) (by decide)
    have hvw : 0 ≤ v * w ∧ v * w ≤ 9 := by rcases hw with rfl | rfl <;> omega
    simp [hm]
    generalize v * w = many2 at *
    refine smp_repsE I3 (by omega) _ most wide w0 w1 (by omega) (by omega) s6 _ b9 a10 a11 many2 hvw.1 hvw.2 _ _ fun l3 c3 b9 b10 b11 hM3 I4 f0 f1 => ?_
    obtain ⟨M2, rfl, m2⟩ := hM2
    obtain ⟨M3, rfl, m3, m4⟩ := hM3
    have hV3 : Nvs (bN (l ++ M2 ++ [.bar nm] ++ M3)) (xs.take (i + 1)) := by
      rw [bN_app, bN_app, bN_app, bN_marks m2, bN_reps m3, List.append_nil, List.append_nil, show xs.take (i + 1) = xs.take i ++ [x] by rw [List.take_add_one, hxi]; rfl]
      exact hV.snoc hnv
    have hA3 : adj (l ++ M2 ++ [.bar nm] ++ M3) = false := adj_reps M3 _ (adj_snoc _ _ (adj_marks M2 l hA m2) (.inl rfl)) (fun b e => by
      rw [List.getLast?_append] at e
      have : It.bar nm = b := by simpa using e
      subst this
      rfl) m3
    exact hk _ ⟨c3, _, ms2, us2, _, _, _, _, _, _, rfl, I4.mono (by omega), hL2, by omega, by omega, hV3, hA3, fun y e h => by
      rcases List.mem_append.mp h with h | h
      · rcases List.mem_append.mp h with h | h
        · rcases List.mem_append.mp h with h | h
          · exact hB y e h
          · have := List.all_eq_true.mp m2 _ h
            cases this
        · cases (List.mem_singleton.mp h)
      · exact m4 y e h⟩
  · rintro Γ ⟨cc, l, ms, us, s6, a7, a8, a9, a10, a11, rfl, I, hL, d0, d1, hV, hA, hB⟩
    simp at d1 I hV
    have hbl : (bN l).length ≤ 68 := by rw [hV.len]; omega
    have hnd : (bN l).Nodup := hV.nodup hyF hyN
    have pre280 : ∀ L : List It, bN L = bN l → adj L = false → smB (L.take 280) = true ∧ (bN (L.take 280)).length ≤ 68 := fun L e1 e2 => by
      have e3 : L = L.take 280 ++ L.drop 280 := (List.take_append_drop 280 L).symm
      refine ⟨smB_pre (b := L.drop 280) (by rw [← e3, e1]; exact hnd) (by rw [← e3]; exact e2), ?_⟩
      have := bN_app (L.take 280) (L.drop 280)
      rw [← e3, e1] at this
      rw [this, List.length_append] at hbl
      omega
    have hbn : ∀ L : List It, bN L = bN l → ∀ x ∈ bN (L.take 280), ∃ y ∈ poolF, Nv x y := fun L e x hx => by
      have e3 := bN_app (L.take 280) (L.drop 280)
      rw [List.take_append_drop, e] at e3
      obtain ⟨y, hy, hv⟩ := hV.mem x (by rw [e3]; exact List.mem_append_left _ hx)
      exact ⟨y, hyF y hy, hv⟩
    have hll := I.hl
    have hz1 : l.length < sizeLine := Nat.lt_of_lt_of_le (Nat.lt_succ_self _) (smallE (by omega))
    have t1 : ∀ L : List D, cutD L none (some 280) = L.take 280 := fun L => cut_takeG (p := 280)
    simp
    refine dk (by omega) (by omega) (by omega) (by omega) fun r0 r00 r01 => ?_
    simp [shaped_int, eqv_int]
    by_cases hr : r0 = 0
    · have eE : sc l ++ [.tuple [.str "mark", .str "last"]] = sc (l ++ [.mark "last"]) := by simp [sc, It.d]
      have ho : ok [] (l ++ [.mark "last"]) := (ok_app _ _ _).mpr ⟨I.h, last_ok, fun z => mkN_last _ (hL.1 _ ((I.mm _).mp z)) rfl, trivial⟩
      simp [hr, sc_length, eE, t1, sc_take]
      refine ⟨hz1, ?_⟩
      obtain ⟨p1, p2⟩ := pre280 (l ++ [.mark "last"]) (by rw [bN_app]; simp [bN]) (adj_snoc l _ hA (.inl rfl))
      refine q _ _ _ (smp_pre ho 280) (by rw [List.length_take]; omega) (by rw [List.length_take]; first | omega | (rw [List.length_append, List.length_singleton]; omega)) p1 p2 (fun n hn => ?_) (fun x c h => ?_) (hbn (l ++ [.mark "last"]) (by rw [bN_app]; simp [bN])) (by omega) (by omega) ⟨_, _, _, _, _, _, _, _, _, rfl⟩
      rcases List.mem_append.mp (List.mem_of_mem_take hn) with z | z
      · exact .inl (hL.1 _ ((I.mm _).mp (mk_in z)))
      · exact .inr (by simpa using z)
      · rcases List.mem_append.mp (List.mem_of_mem_take h) with h | h
        · exact hB x c h
        · cases (List.mem_singleton.mp h)
    · simp [hr, t1, sc_take]
      obtain ⟨p1, p2⟩ := pre280 l rfl hA
      exact q _ _ _ (smp_pre I.h 280) (by rw [List.length_take]; omega) (by rw [List.length_take]; first | omega | (rw [List.length_append, List.length_singleton]; omega)) p1 p2 (fun n hn => .inl (hL.1 _ ((I.mm _).mp (mk_in (List.mem_of_mem_take hn))))) (fun x c h => hB x c (List.mem_of_mem_take h)) (hbn l rfl) (by omega) (by omega) ⟨_, _, _, _, _, _, _, _, _, rfl⟩
abbrev lttrs : List Nat := ("abcdefghijklmnopqrstuvwxyz" : Str).cps.toList
theorem fv_law_simpleE : FnV fs_law_simpleE 12 w_law_simpleE := by
  rintro io ds Q X ⟨c, most, wide, rfl, c0, c1, rfl, m0, m1, w0, w1, q⟩
  show w_law_simpleE [.op 1 (.int c), .sh (.int most), .sh (.int wide), .no, .no, .no, .no, .no, .no, .no, .no, .no] _ _
  have hz : ("abcdefghijklmnop" : Str).cps.size ≤ sizeLine := smallE (by decide +kernel)
  have hp : signsD "abcdefghijklmnop" = poolN.map .str := by unfold signsD poolN; rw [List.map_map]; rfl
  have hs : signsD "abcdefghijklmnopqrstuvwxyz" = lttrs.map fun c => .str ⟨#[c]⟩ := rfl
  have lq : ("q" : Str).length = 1 := by decide +kernel
  have lr : ("r" : Str).length = 1 := by decide +kernel
  have h2 : 1 + 1 ≤ sizeLine := smallE (by decide)
  have hll : lttrs.length ≤ 1000000 := by decide +kernel
  have hl26 : lttrs.length = 26 := by decide +kernel
  have hl16 : poolN.length = 16 := by decide +kernel
  have l1 : ∀ c : Nat, (⟨#[c]⟩ : Str).length = 1 := fun c => rfl
  have fin : ∀ (l : List It) (c' : Int) (Γ : VL.Ev), ok [] l → l.length ≤ 280 → (l.length : Int) ≤ 16 * most + 1 → smB l = true → (bN l).length ≤ 68 → (∀ n, It.mark n ∈ l → n ∈ mkN ∨ n = "last") → (∀ x c, It.rep x c ∈ l → c ≤ 1000000000) → (∀ x ∈ bN l, ∃ y ∈ poolF, Nv x y) → c ≤ c' → c' ≤ c + 6000 → (∃ l0 ms us s6 a7 a8 a9 a10 a11, Γ = smE c' most wide l0 ms us s6 a7 a8 a9 a10 a11) →
      retW (.ow (.list (sc l))) Γ fun r' Γ' => SameIo (some (Sl.op 1 (PyData.int c))) (ioOf (some (Sl.op 1 (PyData.int c))) Γ') ∧ Q r' (ioOf (some (Sl.op 1 (PyData.int c))) Γ') := by
    rintro l c' Γ h1 h2 h2b h3 h4 h5 h8 h9 h6 h7 ⟨l0, ms, us, s6, a7, a8, a9, a10, a11, rfl⟩
    have := q l c' h1 h2 h2b h3 h4 h5 h8 h9 h6 h7
    simp
    exact this
  simp [w_law_simpleE, hz, hp]
  refine ⟨rfl, rfl, ?_⟩
  simp
  by_cases h16 : 16 < most
  · rw [if_pos h16, ev_wLc]
    simp [okW, wipeE, hs]
    refine lcm_map lttrs (fun c => .str ⟨#[c]⟩) (fun c => .str (("q" : Str) ++ ⟨#[c]⟩)) hll (fun c acc k2 hc hzz h1 => ?_) ?_
    · simp [lcT, wipeE, lq, l1]
      exact ⟨h2, hzz, h1⟩
    · simp [restE, hl16, hl26]
      refine ⟨smallE (by decide), ?_⟩
      rw [ev_wLc]
      simp [okW, wipeE, hs]
      refine lcm_map lttrs (fun c => .str ⟨#[c]⟩) (fun c => .str (("r" : Str) ++ ⟨#[c]⟩)) hll (fun c acc k2 hc hzz h1 => ?_) ?_
      · simp [lcT, wipeE, lr, l1]
        exact ⟨h2, hzz, h1⟩
      · have eP : poolN.map PyData.str ++ (lttrs.map (fun c => PyData.str (("q" : Str) ++ ⟨#[c]⟩)) ++ lttrs.map (fun c => PyData.str (("r" : Str) ++ ⟨#[c]⟩))) = (poolM most).map .str := by
          unfold poolM
          rw [if_pos h16]
          unfold poolF
          rw [List.map_append, List.map_append, List.map_map, List.map_map, List.append_assoc]
          rfl
        simp [restE, hl16, hl26, eP]
        refine ⟨smallE (by decide), ?_⟩
        exact fv_smp_from c0 c1 m0 m1 w0 w1 fin _
  · rw [if_neg h16]
    have eP : poolN = poolM most := by unfold poolM; rw [if_neg h16]
    rw [eP]
    exact fv_smp_from c0 c1 m0 m1 w0 w1 fin _
end SC

set_option Elab.async false
set_option linter.all false
set_option maxRecDepth 100000
namespace SC
open PySem L2 VL

end SC

set_option Elab.async false
set_option linter.all false
set_option maxRecDepth 100000
namespace SC
open PySem L2 VL

def insB (L : List It) (p : Nat) : List It := L.take p ++ .bar "a" :: L.drop p
section
variable {L : List It} {p : Nat}
def g1 (p n : Nat) : Int := if n = p then 1 else 0
def cn (L : List It) (p n : Nat) : Int := if n < p then 0 else SS1 (ind p) (insB L p) (n + 1)
def wk (L : List It) (p k : Nat) : Int := if isRep L k = true then g1 p (stt L k) + cn L p k - cn L p (stt L k) else 0
end
end SC

set_option Elab.async false
set_option linter.all false
set_option maxRecDepth 100000
namespace SC
open PySem L2 VL

section
variable {l : List It}
end
end SC

set_option Elab.async false
set_option linter.all false
set_option maxRecDepth 100000
namespace SC
open PySem L2 VL

end SC

set_option Elab.async false
set_option linter.all false
set_option maxRecDepth 100000
namespace VL
open PySem L2
section
def isTp (d : D) (k : List D → Prop) : Prop := match d with
  | .tuple l => k l
  | _ => False
theorem isTp_inv {d : D} {k : List D → Prop} (h : isTp d k) : ∃ l, d = .tuple l ∧ k l := by
  cases d <;> first | exact ⟨_, rfl, h⟩ | exact h.elim
@[simp ↓] theorem ev_isTp (l : List D) (k : List D → Prop) : isTp (.tuple l) k = k l := rfl
variable {X : Cx} {G : Gb} {W : WX}
def wSlT (wa : WE) (wl wh : WO) : WE := fun Γ Q X => wa Γ (fun r Γ1 => wl Γ1 (fun lo Γ2 => wh Γ2 (fun hi Γ3 => rdW r Γ3 fun d => isTp d fun ds => Q (.sh (.tuple (cutD ds lo hi))) Γ3) X) X) X
theorem cutD_whole {ds : List D} {lo hi : Option Int} (h : HT.sIx ds.length 0 lo = 0 ∧ HT.sIx ds.length ds.length hi = ds.length) : cutD ds lo hi = ds := by
  unfold cutD
  rw [h.1, h.2]
  simp
theorem sim_slT {te : TE} {wa : WE} {tl th : TO} {wl wh : WO} (ha : SimE G W te wa) (h1 : SimO G W tl wl) (h2 : SimO G W th wh) : SimE G W (tSl (rSlA G.K) te tl th) (wSlT wa wl wh) := by
  intro C Hi σ H Γ Q Qd Xd c hw hQ hX
  refine ha C Hi σ H Γ _ _ Xd c hw (fun v1 r1 H1 Hi1 Γ1 e1 o1 q1 => ?_) hX
  obtain ⟨Hi2, e2, c2, hh2⟩ := o1.hold
  have f2 := e1.trans e2
  refine h1 C Hi2 σ H1 Γ1 _ _ Xd c2 q1 (fun lo H3 Hi3 Γ3 e3 c3 q3 => ?_) fun x c d H' Hi' Γ' e' => hX x c d H' Hi' Γ' (f2.trans e')
  refine h2 C Hi3 σ H3 Γ3 _ _ Xd c3 q3 (fun hi H4 Hi4 Γ4 e4 c4 q4 => ?_) fun x c d H' Hi' Γ' e' => hX x c d H' Hi' Γ' ((f2.trans e3).trans e')
  obtain ⟨d, b, q5⟩ := (hh2.mono (e3.trans e4)).read c4 q4
  obtain ⟨ds, rfl, q6⟩ := isTp_inv q5
  obtain ⟨p, xs, rfl, s5, r5⟩ := b.tuple c4.imm
  refine ⟨p, xs, rfl, SqT.of s5, fun hh => ?_, fun hh t ht => ?_⟩
  · rw [r5.length] at hh
    rw [cutD_whole hh] at q6
    rcases b with b | ⟨p', e, b⟩
    · exact hQ (.ref p) (.sh (.tuple ds)) H4 Hi4 Γ4 ((f2.trans e3).trans e4) ⟨c4, b⟩ q6
    · cases b
  · obtain ⟨e, o⟩ := Out.newT c4 ht (cut_rep r5 lo hi)
    exact hQ _ _ _ _ Γ4 (((f2.trans e3).trans e4).trans e) o q6
theorem de_slT {a : Expr} {ta : TE} {wa : WE} {lo hi : Option Expr} {tl th : TO} {wl wh : WO} {p2 pos : Pos} (hK : X.K = G.K) (ha : DE X G W a ta wa) (hl : DO X G W lo tl wl) (hh : DO X G W hi th wh) : DE X G W (.Subscript a (.Slice lo hi none p2) pos) (tSl (rSlA G.K) ta tl th) (wSlT wa wl wh) :=
  ⟨pe_slice (by rw [← hK]; exact sl_tupA) ha.pe hl.pe hh.pe, sim_slT ha.sim hl.sim hh.sim⟩
@[simp ↓] theorem ev_wSlT (wa : WE) (wl wh : WO) (Γ : Ev) (Q : R → Ev → Prop) (X : XW) : wSlT wa wl wh Γ Q X = (wa Γ (fun r Γ1 => wl Γ1 (fun lo Γ2 => wh Γ2 (fun hi Γ3 => rdW r Γ3 fun d => isTp d fun ds => Q (.sh (.tuple (cutD ds lo hi))) Γ3) X) X) X) := rfl
def oCat : Op2 := fun a b k => isTp a fun xs => isTp b fun ys => xs.length + ys.length ≤ sizeLine ∧ k (.sh (.tuple (xs ++ ys)))
@[simp ↓] theorem ev_oCat (xs ys : List D) (k : R → Prop) : oCat (.tuple xs) (.tuple ys) k = (xs.length + ys.length ≤ sizeLine ∧ k (.sh (.tuple (xs ++ ys)))) := rfl
end
end VL

set_option Elab.async false
set_option linter.all false
set_option maxRecDepth 100000
namespace VL
open PySem L2
def wCallMx (fs : FS) (is : List Nat) (n m : Nat) (wa wk : WA) : WE := fun Γ Q X => wa Γ (fun rs Γ1 => wk Γ1 (fun rs2 Γ2 => frAll (rs ++ rs2) Γ2 fun ds Γ3 => rs.length = n ∧ rs2.length = m ∧ fs none (reord is ds) (fun r _ => Q r Γ3) fun x _ => X x Γ3) X) X
def GdM (P : Program) (wd : World) (G : Gb) (mg : Str → Option Value) (base : Heap) (k : Nat) (x : Str) (fs : FS) (ps : List Str) (n : Nat) (ks : List Str) (is : List Nat) : Prop :=
  ∃ (f : Addr) (fd : FuncData), mg x = some (.ref f) ∧ PySem.W.keepIn G.K (.ref f) = true ∧ FnOk P wd G.K mg base (L2N.CX P wd) k f fd ps (lift G fs) ∧ ∀ (s : Shared) (us ws : List Value), us.length = n → ws.length = ks.length → BindsTo s fd ⟨us, ks.zip ws⟩ (ps.zip (reord is (us ++ ws)))
theorem GdM.mono {P : Program} {wd : World} {G : Gb} {mg : Str → Option Value} {base : Heap} {k k' : Nat} {x : Str} {fs : FS} {ps ks : List Str} {n : Nat} {is : List Nat} (h : GdM P wd G mg base k x fs ps n ks is) (l : k ≤ k') : GdM P wd G mg base k' x fs ps n ks is :=
  let ⟨f, fd, h1, h2, h3, h4⟩ := h
  ⟨f, fd, h1, h2, h3.mono l, h4⟩
theorem Holds.len {G : Gb} {Hi : Hp} {σ : St} {vs : List V} {rs : List R} (h : Holds G Hi σ vs rs) : vs.length = rs.length := by
  induction h with
  | nil => rfl
  | cons a r ih => simp [ih]
section
variable {X : Cx} {G : Gb} {W : WX} {e : Expr} {es : List Expr} {te : TE} {we : WE} {pos p kpos : Pos} {t tk : TA} {w wk : WA} {kws : List Keyword} {nm : Option Str} {k n : Nat} {x : Str} {fs : FS} {ps ks : List Str} {is : List Nat}
end
@[simp ↓] theorem ev_wCallMx (fs : FS) (is : List Nat) (n m : Nat) (wa wk : WA) (Γ : Ev) (Q : R → Ev → Prop) (X : XW) : wCallMx fs is n m wa wk Γ Q X =
    wa Γ (fun rs Γ1 => wk Γ1 (fun rs2 Γ2 => frAll (rs ++ rs2) Γ2 fun ds Γ3 => rs.length = n ∧ rs2.length = m ∧ fs none (reord is ds) (fun r _ => Q r Γ3) fun x _ => X x Γ3) X) X := rfl
end VL
namespace L2
open PySem PySem.Spec PyProof.Rows
end L2

set_option Elab.async false
set_option linter.all false
set_option maxRecDepth 100000
namespace SC
open PySem L2 VL
end SC

set_option Elab.async false
set_option linter.all false
set_option maxRecDepth 100000
namespace SC
open PySem L2 VL
theorem enumF_it {l : List It} {i n : Nat} {d : D} (h : (enumF n (sc l))[i]? = some d) : ∃ it, l[i]? = some it ∧ d = .tuple [.int ((n + i : Nat) : Int), it.d] := by
  induction l generalizing i n with
  | nil => simp [enumF, sc] at h
  | cons it l ih =>
    rw [show sc (it :: l) = it.d :: sc l from rfl, enumF] at h
    cases i with
    | zero =>
      simp at h
      exact ⟨it, rfl, by rw [← h]; rfl⟩
    | succ i =>
      obtain ⟨x, h1, h2⟩ := ih (i := i) (n := n + 1) (by simpa using h)
      exact ⟨x, by simpa using h1, by rw [h2, show n + 1 + i = n + (i + 1) by omega]⟩
theorem enumF_length : ∀ (l : List D) (n : Nat), (enumF n l).length = l.length
  | [], _ => rfl
  | d :: l, n => by rw [enumF, List.length_cons, List.length_cons, enumF_length l]
end SC

set_option Elab.async false
set_option linter.all false
set_option maxRecDepth 100000
namespace VL
open PySem L2
section
variable {X : Cx} {G : Gb} {W : WX}
def oIdx : OpMR := fun d ds k => match ds with
  | [e] => isL d fun l => SeqAt.shaped (.list l) = true ∧ SeqAt.shaped e = true ∧ ∃ (j : Nat) (z : D), l[j]? = some z ∧ PyData.eqv z e = true ∧ (∀ (m : Nat) (z' : D), m < j → l[m]? = some z' → PyData.eqv z' e = false) ∧ k (.sh (.int (j : Nat)))
  | _ => False
theorem sem_idx : SemMR G (rIndexD G.K) oIdx := by
  intro C Hi σ H Γ x xs d ds k Q c hd hs h q
  unfold oIdx at h
  split at h
  · cases hs with
    | cons b1 r1 =>
      cases r1
      obtain ⟨l, rfl, s1, s2, j, z, hz, he, hno, h3⟩ := isL_inv h
      have dp := hd.dp c.imm s1
      obtain ⟨p, ys, rfl, t1, rr⟩ := hd.list c.imm
      exact ⟨p, _, _, l, j, z, rfl, rfl, dp, b1.dp c.imm s2, s1, s2, hz, he, hno, q _ _ H Hi (Ext.refl _) (out_int c _) h3⟩
  · exact h.elim
theorem de_index {o e : Expr} {to te : TE} {wo we : WE} {apos cpos : Pos} (hK : X.K = G.K) (hu : X.A.units + 65 < cLine) (ho : DE X G W o to wo) (he : DE X G W e te we)
    (h1 : attributeBase o "index" X.env (eval o X.env) = eval o X.env := by rfl)
    (h2 : ((backTo cpos (starEach [e] X.env)).all (fun x => !x.1) && (backToKw cpos (keywordEach [] X.env)).all (fun x => x.1.isSome)
      && decide (([e] : List Expr).length + ([] : List Keyword).length + (if ([] : List Keyword).isEmpty then 0 else 1) < 30)) = true := by rfl)
    (h3 : (apos.endLine == cpos.line) = true := by rfl) (h4 : starEach [e] X.env = (false, eval e X.env) :: starEach [] X.env := by rfl) (h5 : (backTo cpos (starEach [] X.env)).any (·.1) = false := by rfl) :
    DE X G W (.Call (.Attribute o "index" apos) [e] [] cpos) (tBM G.K "list" (rIndexD G.K) to (tCons te tNil)) (wMR "list" oIdx wo (wCons we wNil)) :=
  de_mr hK PySem.F.plainAttrs_list PySem.F.slot_list_index PySem.F.type_list_index (by rw [← hK]; exact mt_indexD hu) sem_idx ho (da_cons he da_nil h4) h1 h2 h3 h4 h5
@[simp ↓] theorem ev_idx (l : List D) (e : D) (k : R → Prop) : oIdx (.list l) [e] k = (SeqAt.shaped (.list l) = true ∧ SeqAt.shaped e = true ∧ ∃ (j : Nat) (z : D), l[j]? = some z ∧ PyData.eqv z e = true ∧ (∀ (m : Nat) (z' : D), m < j → l[m]? = some z' → PyData.eqv z' e = false) ∧ k (.sh (.int (j : Nat)))) := rfl
end
end VL

set_option Elab.async false
set_option linter.all false
set_option maxRecDepth 100000
set_option maxHeartbeats 2000000
namespace SC
open PySem PySem.Spec PyProof.Rows L2
section
variable {X : Cx}
end
end SC
namespace VL
open PySem L2
variable {X : Cx} {G : Gb} {H : Hp}
end VL

set_option Elab.async false
set_option linter.all false
set_option maxRecDepth 100000
namespace SC
open PySem L2 VL
end SC

set_option Elab.async false
set_option linter.all false
set_option maxRecDepth 100000
namespace SC
open PySem L2 VL
def atomD : D → Prop
  | .int _ => True
  | .bool _ => True
  | .str s => PyData.strOk s = true
  | .none => True
  | _ => False
def SameT : Nat → D → Prop
  | 0, _ => False
  | n + 1, a => atomD a ∨ ∃ xs : List D, (a = .list xs ∨ a = .tuple xs) ∧ xs.length ≤ 100000 ∧ ∀ x ∈ xs, SameT n x
def fsRec_law_same (n : Nat) : FS := fun io ds Q _ => io = none ∧ ∃ a, ds = [a, a] ∧ SameT n a ∧ Q (.sh (.bool true)) none
theorem lRec_law_same (n : Nat) : FnL (fsRec_law_same n) 2 := by
  intro io ds Q X h
  obtain ⟨rfl, a, rfl, _⟩ := h
  rfl
theorem no_lift {G : Gb} {vs : List V} {H : Hp} {Q : VK} {E : XK} (h : lift G (fsRec_law_same 0) vs H Q E) : False := by
  obtain ⟨io, ds, Hi, Qd, Xd, pre, post, fp, _, _, _, _, _, ⟨_, a, _, z, _⟩, _⟩ := h
  exact z
def w_law_same (fsr : FS) : WS := wSeq (wIfS (wT (wIsi2 "list" "tuple" (wVar 1))) (wSeq (wIfS (wOr (wNot (wT (wIsi2 "list" "tuple" (wVar 0)))) (wT (wOp oNe (wIsi "list" (wVar 0)) (wIsi "list" (wVar 1))))) (wRet (wC (.bool false))) (wNext)) (wRet (wAndV (wOp oEq (wCB (o1 oLen) (wCons (wVar 0) (wNil))) (wCB (o1 oLen) (wCons (wVar 1) (wNil)))) (wCB (o1 oAll) (wCons (wLc [2, 3] (wiZA (wCons (wVar 0) (wCons (wVar 1) (wNil)))) (wgTup 2 (wgCons (wgName 2) (wgCons (wgName 3) (wgNil)))) (wYes) (wCall fsr [] (wCons (wVar 2) (wCons (wVar 3) (wNil))))) (wNil)))))) (wNext)) (wRet (wAndV (wOp oEq (wIsi "bool" (wVar 0)) (wIsi "bool" (wVar 1))) (wOp oEq (wVar 0) (wVar 1))))
theorem fvRec_law_same (n : Nat) : FnV (fsRec_law_same (n + 1)) 4 (w_law_same (fsRec_law_same n)) := by
  rintro io ds Q X ⟨rfl, a, rfl, ha, q⟩
  show w_law_same (fsRec_law_same n) [.sh a, .sh a, .no, .no] _ _
  have sb : ∀ b : Bool, SeqAt.shaped (.bool b) = true := fun b => by cases b <;> decide +kernel
  have eb : ∀ b : Bool, PyData.eqv (.bool b) (.bool b) = true := fun b => by cases b <;> decide +kernel
  have sn : SeqAt.shaped .none = true := by decide +kernel
  have en : PyData.eqv .none .none = true := by decide +kernel
  have t1 : isT "int" "list" = false ∧ isT "int" "tuple" = false ∧ isT "bool" "list" = false ∧ isT "bool" "tuple" = false ∧ isT "str" "list" = false ∧ isT "str" "tuple" = false ∧ isT "NoneType" "list" = false ∧ isT "NoneType" "tuple" = false := by decide +kernel
  obtain ⟨t1, t2, t3, t4, t5, t6, t7, t8⟩ := t1
  rcases ha with ha | ⟨xs, ha, hl, hx⟩
  · cases a with
    | int i =>
      simp [w_law_same, t1, t2, sb, eb, shaped_int, eqv_int]
      exact q
    | bool b =>
      simp [w_law_same, t3, t4, sb, eb]
      exact q
    | str s =>
      have hs : SeqAt.shaped (.str s) = true := shaped_str ha
      simp [w_law_same, t5, t6, sb, eb, hs, eqv_str]
      exact q
    | none =>
      simp [w_law_same, t7, t8, sb, eb, sn, en]
      exact q
    | _ => exact ha.elim
  · have ez : List.zipWith (fun x y => PyData.tuple [x, y]) xs xs = xs.map fun x => PyData.tuple [x, x] := by
      clear hl hx
      induction xs with
      | nil => rfl
      | cons x xs ih => simp [ih]
    rcases ha with rfl | rfl
    all_goals
      simp [w_law_same, sb, eb, shaped_int, eqv_int, ev_wLc, okW, wipeE, ez]
      refine lcm_map xs (fun x => .tuple [x, x]) (fun _ => .bool true) (by omega) (fun x acc k hm hz hk => ?_) ?_
      · simp [lcT, wipeE]
        refine ⟨rfl, x, rfl, hx x hm, ?_⟩
        simp
        exact ⟨hz, hk⟩
      · simp [restE]
        refine ⟨xs.map fun _ => true, by rw [List.map_map]; rfl, ?_⟩
        have : (xs.map fun _ => true).all id = true := List.all_eq_true.mpr fun b hb => by
          obtain ⟨_, _, rfl⟩ := List.mem_map.mp hb
          rfl
        rw [this]
        exact q
end SC

set_option Elab.async false
set_option linter.all false
set_option maxRecDepth 100000
namespace SC
open PySem L2 VL
end SC

set_option Elab.async false
set_option linter.all false
set_option maxRecDepth 100000
namespace SC
open PySem L2 VL

end SC

set_option Elab.async false
set_option linter.all false
set_option maxRecDepth 100000
namespace SC
open PySem L2 VL
end SC

set_option Elab.async false
set_option linter.all false
set_option maxRecDepth 100000
set_option pp.maxSteps 600
namespace SC
open PySem L2 VL

def BadE (l : List It) (e : D) : Prop := (∀ xs, e ≠ .tuple xs) ∨ ∃ x y, e = .tuple [x, y] ∧ repD l x = none
inductive BadSt (l : List It) : D → Prop
  | kind {v : D} : isT (tyN v) "tuple" = false → BadSt l v
  | len {xs : List D} : xs.length ≠ 2 → BadSt l (.tuple xs)
  | pos {x y : D} : isIntD x 0 (.int ((l.length : Nat) : Int)) = false → BadSt l (.tuple [x, y])
  | lst {x y : D} : isIntD x 0 (.int ((l.length : Nat) : Int)) = true → isT (tyN y) "list" = false → BadSt l (.tuple [x, y])
  | ent {p : Nat} {a : Act} {e : D} : p ≤ l.length → Vs l p p a → BadE l e → BadSt l (.tuple [.int (p : Int), .list (aD a ++ [e])])
def TmW (v : D) (n : Int) (A B : Prop) : Prop := (isIntD v 0 (.int n) = true ∧ A) ∨ (isIntD v 0 (.int n) = false ∧ B)
theorem TmW.x {v : D} {n : Int} {A B : Prop} (h : TmW v n A B) : (isIntD v 0 (.int n) = true → A) ∧ (isIntD v 0 (.int n) = false → B) := by
  rcases h with ⟨h, a⟩ | ⟨h, b⟩
  · exact ⟨fun _ => a, fun z => absurd (h.symm.trans z) (by decide)⟩
  · exact ⟨fun z => absurd (h.symm.trans z) (by decide), fun _ => b⟩
end SC

set_option Elab.async false
set_option linter.all false
set_option maxRecDepth 100000
set_option pp.maxSteps 600
namespace VL
open PySem L2
end VL
namespace SC
open PySem L2 VL
end SC

set_option Elab.async false
set_option linter.all false
set_option maxRecDepth 100000
set_option pp.maxSteps 600
namespace VL
open PySem L2
section
variable {X : Cx} {G : Gb} {W : WX}
def wM1 (o : Op2) (wo we : WE) : WE := fun Γ Q X => wo Γ (fun ra Γ1 => rdW ra Γ1 fun a => isS a fun _ => we Γ1 (fun rb Γ2 => rdW ra Γ2 fun a => rdW rb Γ2 fun b => o a b fun r => Q r Γ2) X) X
end
section
variable {X : Cx} {G : Gb} {W : WX} {o e : Expr} {to te : TE} {wo we : WE} {apos pos : Pos}
def wFmt (w : WE) : WE := fun Γ Q X => w Γ (fun r Γ1 => rdW r Γ1 fun d => match d with
  | .str y => y.length ≤ sizeLine ∧ Q (.sh (.str y)) Γ1
  | .int i => i.natAbs.log2 < 1920 ∧ Q (.sh (.str (toString i))) Γ1
  | _ => False) X
def wJs : List WE → Str → Ev → (Str → Ev → Prop) → XW → Prop
  | [], acc, Γ, Q, _ => Q acc Γ
  | w :: ws, acc, Γ, Q, X => w Γ (fun r Γ1 => rdW r Γ1 fun d => isS d fun y => (acc ++ y).length ≤ sizeLine ∧ wJs ws (acc ++ y) Γ1 Q X) X
inductive DJ (X : Cx) (G : Gb) (W : WX) : List Expr → List TE → List WE → Prop where
  | nil : DJ X G W [] [] []
  | cons {e : Expr} {t : TE} {w : WE} {es : List Expr} {ts : List TE} {ws : List WE} (h : DE X G W e t w) (r : DJ X G W es ts ws) : DJ X G W (e :: es) (t :: ts) (w :: ws)
def wFs (ws : List WE) : WE := fun Γ Q X => wJs ws Str.empty Γ (fun y Γ1 => Q (.sh (.str y)) Γ1) X
@[simp ↓] theorem ev_wM1 (o : Op2) (wo we : WE) (Γ : Ev) (Q : R → Ev → Prop) (X : XW) : wM1 o wo we Γ Q X = wo Γ (fun ra Γ1 => rdW ra Γ1 fun a => isS a fun _ => we Γ1 (fun rb Γ2 => rdW ra Γ2 fun a => rdW rb Γ2 fun b => o a b fun r => Q r Γ2) X) X := rfl
@[simp ↓] theorem ev_wFmt (w : WE) (Γ : Ev) (Q : R → Ev → Prop) (X : XW) : wFmt w Γ Q X = w Γ (fun r Γ1 => rdW r Γ1 fun d => match d with
  | .str y => y.length ≤ sizeLine ∧ Q (.sh (.str y)) Γ1
  | .int i => i.natAbs.log2 < 1920 ∧ Q (.sh (.str (toString i))) Γ1
  | _ => False) X := rfl
@[simp ↓] theorem ev_wFs (ws : List WE) (Γ : Ev) (Q : R → Ev → Prop) (X : XW) : wFs ws Γ Q X = wJs ws Str.empty Γ (fun y Γ1 => Q (.sh (.str y)) Γ1) X := rfl
@[simp ↓] theorem ev_wJs0 (acc : Str) (Γ : Ev) (Q : Str → Ev → Prop) (X : XW) : wJs [] acc Γ Q X = Q acc Γ := rfl
@[simp ↓] theorem ev_wJs1 (w : WE) (ws : List WE) (acc : Str) (Γ : Ev) (Q : Str → Ev → Prop) (X : XW) : wJs (w :: ws) acc Γ Q X = w Γ (fun r Γ1 => rdW r Γ1 fun d => isS d fun y => (acc ++ y).length ≤ sizeLine ∧ wJs ws (acc ++ y) Γ1 Q X) X := rfl
end
end VL

set_option Elab.async false
set_option linter.all false
set_option maxRecDepth 100000
set_option pp.maxSteps 600
namespace VL
open PySem L2
def oNeD0 : Op2 := fun a b k => isD a fun ps => isD b fun qs => qs = [] ∧ k (.sh (.bool (!ps.isEmpty)))
def oEqD0 : Op2 := fun a b k => isD a fun ps => isD b fun qs => qs = [] ∧ k (.sh (.bool ps.isEmpty))
def oListD : Op1 := fun d k => isD d fun ps => k (.ow (.list (ps.map (·.1))))
section
variable {G : Gb}
end
section
variable {X : Cx} {G : Gb}
end
@[simp ↓] theorem ev_oNeD0 (ps : List (D × D)) (k : R → Prop) : oNeD0 (.dict ps) (.dict []) k = k (.sh (.bool (!ps.isEmpty))) := by simp [oNeD0, isD]
@[simp ↓] theorem ev_oEqD0 (ps : List (D × D)) (k : R → Prop) : oEqD0 (.dict ps) (.dict []) k = k (.sh (.bool ps.isEmpty)) := by simp [oEqD0, isD]
@[simp ↓] theorem ev_oListD (ps : List (D × D)) (k : R → Prop) : oListD (.dict ps) k = k (.ow (.list (ps.map (·.1)))) := rfl
end VL

set_option Elab.async false
set_option linter.all false
set_option maxRecDepth 100000
set_option pp.maxSteps 600
namespace L2
open PySem PySem.Spec PyProof.Rows
end L2
namespace VL
open PySem L2
section
variable {X : Cx} {G : Gb} {W : WX} {a b : Expr} {ta tb : TE} {wa wb : WE} {pos : Pos}
end
end VL

set_option Elab.async false
set_option linter.all false
set_option maxRecDepth 100000
set_option pp.maxSteps 600
namespace SC
open PySem L2 VL
def wordL : List Str := ["do", "re", "mi", "fa", "a", "ab", "abcdefgh", "b", "zz", "none", "z", "bar", "ok", "mark"]
theorem word_ok : ∀ x ∈ wordL, nameB x = true := by decide +kernel
structure RcI (l : List It) (ws : List (Str × Int)) (st : Int) (i : Nat) : Prop where
  h : ok [] l
  ln : l.length = i
  wm : ∀ x, x ∈ mk [] l ↔ x ∈ ws.map (·.1)
  wl : ws.length ≤ i
  wo : ∀ p ∈ ws, p.1 ∈ wordL ∧ 0 ≤ p.2 ∧ p.2 ≤ st
  s0 : 0 ≤ st
  s1 : st + 1 ≤ ((2 ^ (32 * i) : Nat) : Int)
  mN : ∀ x, It.mark x ∈ l → x ∈ wordL
  bN : ∀ x, It.bar x ∈ l → x ∈ wordL
  cN : ∀ x c, It.rep x c ∈ l → c ≤ 999999999
theorem RcI.start : RcI [] [] 0 0 := ⟨trivial, rfl, fun x => by simp [SC.mk], Nat.le_refl _, fun p hp => by simp at hp, Int.le_refl _, by decide, fun _ h => by simp at h, fun _ h => by simp at h, fun _ _ h => by simp at h⟩
theorem two32 (i : Nat) : ((2 ^ (32 * (i + 1)) : Nat) : Int) = 4294967296 * ((2 ^ (32 * i) : Nat) : Int) := by
  rw [show 32 * (i + 1) = 32 + 32 * i by omega, Nat.pow_add, Int.natCast_mul]
  rfl
theorem RcI.bar {l : List It} {ws : List (Str × Int)} {st : Int} {i : Nat} (I : RcI l ws st i) {x : Str} (hx : x ∈ wordL) : RcI (l ++ [.bar x]) ws (st + 1) (i + 1) := by
  have p1 : (1 : Int) ≤ ((2 ^ (32 * i) : Nat) : Int) := by have := I.s0; have := I.s1; omega
  refine ⟨(ok_app _ _ _).mpr ⟨I.h, word_ok x hx, trivial⟩, by rw [List.length_append, I.ln]; rfl, fun y => by rw [mk_app]; exact I.wm y, by have := I.wl; omega, fun p hp => ?_, by have := I.s0; omega, by rw [two32]; have := I.s1; omega, fun y hy => ?_, fun y hy => ?_, fun y c hy => ?_⟩
  · obtain ⟨a, b, c⟩ := I.wo p hp
    exact ⟨a, b, by omega⟩
  · rcases List.mem_append.mp hy with z | z
    · exact I.mN y z
    · simp at z
  · rcases List.mem_append.mp hy with z | z
    · exact I.bN y z
    · have : y = x := by simpa using z
      rw [this]; exact hx
  · rcases List.mem_append.mp hy with z | z
    · exact I.cN y c z
    · simp at z
theorem RcI.mark {l : List It} {ws : List (Str × Int)} {st : Int} {i : Nat} (I : RcI l ws st i) {x : Str} (hx : x ∈ wordL) (hn : x ∉ ws.map (·.1)) : RcI (l ++ [.mark x]) (ws ++ [(x, st + 1)]) (st + 1) (i + 1) := by
  have p1 : (1 : Int) ≤ ((2 ^ (32 * i) : Nat) : Int) := by have := I.s0; have := I.s1; omega
  refine ⟨(ok_app _ _ _).mpr ⟨I.h, word_ok x hx, fun z => hn ((I.wm x).mp z), trivial⟩, by rw [List.length_append, I.ln]; rfl, fun y => ?_, by have := I.wl; simp; omega, fun p hp => ?_, by have := I.s0; omega, by rw [two32]; have := I.s1; omega, fun y hy => ?_, fun y hy => ?_, fun y c hy => ?_⟩
  · rw [mk_app]
    show y ∈ x :: SC.mk [] l ↔ _
    rw [List.mem_cons, I.wm y, List.map_append, List.mem_append]
    simp [or_comm]
  · rcases List.mem_append.mp hp with z | z
    · obtain ⟨a, b, c⟩ := I.wo p z
      exact ⟨a, b, by omega⟩
    · have : p = (x, st + 1) := by simpa using z
      subst this
      exact ⟨hx, by have := I.s0; show 0 ≤ st + 1; omega, Int.le_refl _⟩
  · rcases List.mem_append.mp hy with z | z
    · exact I.mN y z
    · have : y = x := by simpa using z
      rw [this]; exact hx
  · rcases List.mem_append.mp hy with z | z
    · exact I.bN y z
    · simp at z
  · rcases List.mem_append.mp hy with z | z
    · exact I.cN y c z
    · simp at z
theorem RcI.rep {l : List It} {ws : List (Str × Int)} {st : Int} {i : Nat} (I : RcI l ws st i) {x : Str} {r c : Int} (hx : (x, r) ∈ ws) (c1 : 1 ≤ c) (c2 : c ≤ 999999999) : RcI (l ++ [.rep x c]) ws (st + 1 + c * (st + 1 - r + 1)) (i + 1) := by
  obtain ⟨a, b, e⟩ := I.wo _ hx
  have s0 := I.s0
  have s1 := I.s1
  have m0 : 0 ≤ c * (st + 1 - r + 1) := Int.mul_nonneg (by omega) (by omega)
  have m1 : c * (st + 1 - r + 1) ≤ 999999999 * (st + 2) := Int.mul_le_mul c2 (by omega) (by omega) (by decide)
  refine ⟨(ok_app _ _ _).mpr ⟨I.h, word_ok x a, (I.wm x).mpr (List.mem_map.mpr ⟨_, hx, rfl⟩), ⟨c1, by omega⟩, trivial⟩, by rw [List.length_append, I.ln]; rfl, fun y => by rw [mk_app]; exact I.wm y, by have := I.wl; omega, fun p hp => ?_, by omega, by rw [two32]; omega, fun y hy => ?_, fun y hy => ?_, fun y d hy => ?_⟩
  · obtain ⟨a, b, c⟩ := I.wo p hp
    exact ⟨a, b, by omega⟩
  · rcases List.mem_append.mp hy with z | z
    · exact I.mN y z
    · simp at z
  · rcases List.mem_append.mp hy with z | z
    · exact I.bN y z
    · simp at z
  · rcases List.mem_append.mp hy with z | z
    · exact I.cN y d z
    · have : y = x ∧ d = c := by simpa using z
      omega
end SC

set_option Elab.async false
set_option linter.all false
set_option maxRecDepth 100000
set_option pp.maxSteps 600
set_option maxHeartbeats 400000
namespace VL
open PySem L2
end VL
namespace SC
open PySem L2 VL
def Pr (x : Str) : List It → Int
  | [] => 1
  | .rep y c :: l => (if y = x then c + 1 else 1) * Pr x l
  | _ :: l => Pr x l
theorem Pr_app (x : Str) (b : List It) : ∀ a : List It, Pr x (a ++ b) = Pr x a * Pr x b
  | [] => by simp [Pr]
  | .bar _ :: a => by simp only [List.cons_append, Pr, Pr_app x b a]
  | .mark _ :: a => by simp only [List.cons_append, Pr, Pr_app x b a]
  | .rep y c :: a => by simp only [List.cons_append, Pr, Pr_app x b a, Int.mul_assoc]
structure RcJ (cap : Int) (l : List It) (ws : List (Str × Int)) (st : Int) (i : Nat) : Prop where
  I : RcI l ws st i
  cp : st ≤ cap + i
  nd : (ws.map (·.1)).Nodup
  pr : ∀ p ∈ ws, Pr p.1 l ≤ st - p.2 + 1
  pn : ∀ x, x ∉ ws.map (·.1) → Pr x l = 1
  c9 : ∀ x c, It.rep x c ∈ l → c ≤ 9
theorem RcJ.start {cap : Int} (h : 0 ≤ cap) : RcJ cap [] [] 0 0 := ⟨RcI.start, by omega, List.nodup_nil, fun p hp => by simp at hp, fun x _ => rfl, fun _ _ h => by simp at h⟩
theorem RcJ.bar {cap : Int} {l : List It} {ws : List (Str × Int)} {st : Int} {i : Nat} (J : RcJ cap l ws st i) {x : Str} (hx : x ∈ wordL) : RcJ cap (l ++ [.bar x]) ws (st + 1) (i + 1) := by
  refine ⟨J.I.bar hx, by have := J.cp; omega, J.nd, fun p hp => ?_, fun y hy => ?_, fun y c hy => ?_⟩
  · rw [Pr_app]; have := J.pr p hp; simp only [Pr, Int.mul_one]; omega
  · rw [Pr_app, J.pn y hy]; rfl
  · rcases List.mem_append.mp hy with z | z
    · exact J.c9 y c z
    · simp at z
theorem RcJ.mark {cap : Int} {l : List It} {ws : List (Str × Int)} {st : Int} {i : Nat} (J : RcJ cap l ws st i) {x : Str} (hx : x ∈ wordL) (hn : x ∉ ws.map (·.1)) : RcJ cap (l ++ [.mark x]) (ws ++ [(x, st + 1)]) (st + 1) (i + 1) := by
  refine ⟨J.I.mark hx hn, by have := J.cp; omega, ?_, fun p hp => ?_, fun y hy => ?_, fun y c hy => ?_⟩
  · rw [List.map_append, List.nodup_append]
    refine ⟨J.nd, by simp, fun a ha b hb e => ?_⟩
    have : b = x := by simpa using hb
    subst this
    subst e
    exact hn ha
  · rw [Pr_app]
    simp only [Pr, Int.mul_one]
    rcases List.mem_append.mp hp with z | z
    · have := J.pr p z; omega
    · have : p = (x, st + 1) := by simpa using z
      subst this
      rw [J.pn x hn]
      show (1 : Int) ≤ st + 1 - (st + 1) + 1
      omega
  · rw [Pr_app]
    rw [J.pn y (fun z => hy (by rw [List.map_append]; exact List.mem_append_left _ z))]
    rfl
  · rcases List.mem_append.mp hy with z | z
    · exact J.c9 y c z
    · simp at z
theorem key_one {ws : List (Str × Int)} (h : (ws.map (·.1)).Nodup) {x : Str} {r r' : Int} (h1 : (x, r) ∈ ws) (h2 : (x, r') ∈ ws) : r = r' := by
  induction ws with
  | nil => cases h1
  | cons p ws ih =>
    rw [List.map_cons, List.nodup_cons] at h
    rcases List.mem_cons.mp h1 with e1 | e1
    · rcases List.mem_cons.mp h2 with e2 | e2
      · rw [← e1] at e2; exact (Prod.mk.inj e2).2.symm
      · exact absurd (List.mem_map.mpr ⟨_, e2, by rw [← e1]⟩) h.1
    · rcases List.mem_cons.mp h2 with e2 | e2
      · exact absurd (List.mem_map.mpr ⟨_, e1, by rw [← e2]⟩) h.1
      · exact ih h.2 e1 e2
theorem RcJ.rep {cap : Int} {l : List It} {ws : List (Str × Int)} {st : Int} {i : Nat} (J : RcJ cap l ws st i) {x : Str} {r c : Int} (hx : (x, r) ∈ ws) (c1 : 1 ≤ c) (c2 : c ≤ 9) (hcap : st + 1 + c * (st + 1 - r + 1) ≤ cap) : RcJ cap (l ++ [.rep x c]) ws (st + 1 + c * (st + 1 - r + 1)) (i + 1) := by
  obtain ⟨a, b, e⟩ := J.I.wo _ hx
  have m0 : 0 ≤ c * (st + 1 - r + 1) := Int.mul_nonneg (by omega) (by omega)
  refine ⟨J.I.rep hx c1 (by omega), by omega, J.nd, fun p hp => ?_, fun y hy => ?_, fun y d hy => ?_⟩
  · rw [Pr_app]
    have h1 := J.pr p hp
    by_cases h : x = p.1
    · have hr : r = p.2 := key_one J.nd hx (by rw [h]; exact hp)
      simp only [Pr, h, if_true, Int.mul_one]
      have h2 : Pr p.1 l * (c + 1) ≤ (st - p.2 + 1) * (c + 1) := Int.mul_le_mul_of_nonneg_right h1 (by omega)
      have h3 : (st - p.2 + 1) * (c + 1) = c * (st + 1 - p.2 + 1) - c + (st - p.2 + 1) := by
        rw [Int.mul_add, Int.mul_one, Int.mul_comm (st - p.2 + 1) c]
        have : c * (st + 1 - p.2 + 1) = c * (st - p.2 + 1) + c := by
          rw [show st + 1 - p.2 + 1 = (st - p.2 + 1) + 1 by omega, Int.mul_add, Int.mul_one]
        omega
      rw [hr]
      omega
    · simp only [Pr, h, if_false, Int.mul_one]
      omega
  · rw [Pr_app, J.pn y hy]
    have : x ≠ y := fun z => hy (List.mem_map.mpr ⟨_, hx, z⟩)
    simp [Pr, this]
  · rcases List.mem_append.mp hy with z | z
    · exact J.c9 y d z
    · have : y = x ∧ d = c := by simpa using z
      omega
end SC

set_option Elab.async false
set_option linter.all false
set_option maxRecDepth 100000
set_option pp.maxSteps 600
set_option maxHeartbeats 400000
namespace SC
open PySem L2 VL
theorem smB_nodup {l : List It} (h : smB l = true) : (bN l).Nodup := by
  unfold smB at h
  rw [Bool.and_eq_true] at h
  have := (dct_nodup _ _ (Nat.le_refl _)).mp (of_decide_eq_true h.1)
  rwa [List.take_length] at this
theorem mul_ge {a b : Int} (ha : 1 ≤ a) (hb : 1 ≤ b) : b ≤ a * b := by
  have : 1 * b ≤ a * b := Int.mul_le_mul_of_nonneg_right ha (by omega)
  omega
end SC

set_option Elab.async false
set_option linter.all false
set_option maxRecDepth 100000
set_option pp.maxSteps 600
set_option maxHeartbeats 400000
namespace K21
open PySem L2 VL SC
theorem dmerge_nm (x m : Str) : ∀ (p : List Str) (ps : List (D × D)), dget (dmerge (p.map fun s => ((.inr s : Key), PyData.str x)) ps) (.str m) = if m ∈ p then some (.str x) else dget ps (.str m) := by
  intro p
  induction p with
  | nil => intro ps; simp [dmerge]
  | cons s p ih =>
    intro ps
    show dget (dmerge (p.map fun s => ((.inr s : Key), PyData.str x)) (dput ps (.str s) (.str x))) (.str m) = _
    rw [ih, dget_putS]
    by_cases h1 : m ∈ p
    · simp [h1]
    · by_cases h2 : s = m
      · simp [h2]
      · simp [h1, h2, Ne.symm h2]
theorem dmerge_len : ∀ (kvs : List (Key × D)) (ps : List (D × D)), (dmerge kvs ps).length ≤ ps.length + kvs.length
  | [], ps => Nat.le_refl _
  | p :: kvs, ps => by
    have h1 := dmerge_len kvs (dput ps (kD p.1) p.2)
    have h2 := dput_len ps (kD p.1) p.2
    show (dmerge kvs (dput ps (kD p.1) p.2)).length ≤ _
    rw [List.length_cons]
    omega
theorem ns_J : ∀ l : List SC.It, ok [] l → (∀ n ∈ (ns l).p, n ∈ mk [] l) ∧ ∀ n x, (ns l).f n = some x → n ∈ mk [] l ∧ n ∉ (ns l).p ∧ x ∈ bN l := by
  intro l
  refine snoc_ind (P := fun l => ok [] l → (∀ n ∈ (ns l).p, n ∈ mk [] l) ∧ ∀ n x, (ns l).f n = some x → n ∈ mk [] l ∧ n ∉ (ns l).p ∧ x ∈ bN l) (fun _ => ⟨(fun n h => nomatch h), (fun n x h => nomatch h)⟩) (fun l a ih h => ?_) l
  obtain ⟨h1, h2⟩ := (ok_app _ _ _).mp h
  obtain ⟨i1, i2⟩ := ih h1
  rw [ns_snoc, mk_app, bN_app]
  cases a with
  | mark m =>
    have hm : m ∉ mk [] l := h2.2.1
    refine ⟨fun n hn => ?_, fun n x hx => ?_⟩
    · have hn : n ∈ (ns l).p ++ [m] := hn
      rcases List.mem_append.mp hn with hn | hn
      · exact List.mem_cons_of_mem _ (i1 n hn)
      · rw [List.mem_singleton.mp hn]; exact List.mem_cons_self
    · have hx : (ns l).f n = some x := hx
      obtain ⟨a1, a2, a3⟩ := i2 n x hx
      refine ⟨List.mem_cons_of_mem _ a1, fun hn => ?_, List.mem_append_left _ a3⟩
      have hn : n ∈ (ns l).p ++ [m] := hn
      rcases List.mem_append.mp hn with hn | hn
      · exact a2 hn
      · rw [List.mem_singleton.mp hn] at a1; exact hm a1
  | bar y =>
    refine ⟨(fun n hn => nomatch hn), fun n x hx => ?_⟩
    have hx : (if n ∈ (ns l).p then some y else (ns l).f n) = some x := hx
    split at hx
    · rename_i hn
      cases hx
      exact ⟨i1 n hn, (fun z => nomatch z), List.mem_append_right _ (by simp [bN])⟩
    · obtain ⟨a1, a2, a3⟩ := i2 n x hx
      exact ⟨a1, (fun z => nomatch z), List.mem_append_left _ a3⟩
  | rep m c =>
    refine ⟨i1, fun n x hx => ?_⟩
    obtain ⟨a1, a2, a3⟩ := i2 n x hx
    exact ⟨a1, a2, List.mem_append_left _ a3⟩
theorem ns_mono {a : List SC.It} {n x : Str} (h : (ns a).f n = some x) : ∀ b : List SC.It, ok [] (a ++ b) → (ns (a ++ b)).f n = some x := by
  intro b
  refine snoc_ind (P := fun b => ok [] (a ++ b) → (ns (a ++ b)).f n = some x) (fun _ => by rw [List.append_nil]; exact h) (fun b c ih ho => ?_) b
  rw [← List.append_assoc] at ho ⊢
  have ho1 := ((ok_app _ _ _).mp ho).1
  have i := ih ho1
  rw [ns_snoc]
  cases c with
  | mark m => exact i
  | rep m c => exact i
  | bar y =>
    have := ((ns_J _ ho1).2 n x i).2.1
    show (if n ∈ (ns (a ++ b)).p then some y else (ns (a ++ b)).f n) = some x
    rw [if_neg this]
    exact i
theorem ns_back {a : List SC.It} {n x : Str} : ∀ b : List SC.It, ok [] (a ++ (.bar x :: b)) → (bN (a ++ (.bar x :: b))).Nodup → (ns (a ++ (.bar x :: b))).f n = some x → n ∈ (ns a).p := by
  intro b
  refine snoc_ind (P := fun b => ok [] (a ++ (.bar x :: b)) → (bN (a ++ (.bar x :: b))).Nodup → (ns (a ++ (.bar x :: b))).f n = some x → n ∈ (ns a).p) (fun ho hd hf => ?_) (fun b c ih ho hd hf => ?_) b
  · rw [show a ++ [It.bar x] = a ++ [It.bar x] from rfl, ns_snoc] at hf
    have hf : (if n ∈ (ns a).p then some x else (ns a).f n) = some x := hf
    split at hf
    · assumption
    · have := ((ns_J a ((ok_app _ _ _).mp ho).1).2 n x hf).2.2
      rw [bN_app] at hd
      exact absurd rfl ((List.nodup_append.mp hd).2.2 x this x (by simp [bN]))
  · have e : a ++ (It.bar x :: (b ++ [c])) = (a ++ (It.bar x :: b)) ++ [c] := by simp
    rw [e] at ho hd hf
    have ho1 := ((ok_app _ _ _).mp ho).1
    rw [bN_app] at hd
    obtain ⟨d1, _, d2⟩ := List.nodup_append.mp hd
    rw [ns_snoc] at hf
    cases c with
    | mark m => exact ih ho1 d1 hf
    | rep m c => exact ih ho1 d1 hf
    | bar y =>
      have hf : (if n ∈ (ns (a ++ (It.bar x :: b))).p then some y else (ns (a ++ (It.bar x :: b))).f n) = some x := hf
      split at hf
      · cases hf
        exact absurd rfl (d2 x (by rw [bN_app]; simp [bN]) x (by simp [bN]))
      · exact ih ho1 d1 hf
def usd (L : List SC.It) : SC.It → Option D
  | .rep n _ => ((ns L).f n).map .str
  | _ => none
theorem lay_all : ∀ {es : List D}, (∀ e ∈ es, e.canLay0 = true) → PyData.canLayAll0 es = true
  | [], _ => rfl
  | e :: es, h => by
    simp only [PyData.canLayAll0, h e List.mem_cons_self, lay_all fun x hx => h x (List.mem_cons_of_mem _ hx)]
    rfl
theorem dep_all {n : Nat} : ∀ {es : List D}, (∀ e ∈ es, e.depth ≤ n) → PyData.depthAll es ≤ n
  | [], _ => by simp [PyData.depthAll]
  | e :: es, h => by
    have h1 := h e List.mem_cons_self
    have h2 := dep_all fun x hx => h x (List.mem_cons_of_mem _ hx)
    simp only [PyData.depthAll]
    omega
theorem shaped_of {n : Nat} {xs : List D} (h : ∀ x ∈ xs, SeqAt.shaped x = true ∧ x.depth ≤ n) (hn : n ≤ 60) : SeqAt.shaped (.list xs) = true := by
  have h1 := lay_all fun x hx => SeqAt.canLay_of_shaped (h x hx).1
  have h2 := dep_all (n := n) fun x hx => (h x hx).2
  unfold SeqAt.shaped
  simp only [PyData.canLay0, PyData.depth, h1, Bool.true_and]
  exact decide_eq_true (by omega)
theorem nfA_ne {U : Str → Bool} : ∀ l : List SC.It, bN l ≠ [] → (nfA U l).1 ≠ [] := by
  intro l
  refine snoc_ind (P := fun l => bN l ≠ [] → (nfA U l).1 ≠ []) (fun h => absurd rfl h) (fun l a ih h => ?_) l
  rw [nfA_snoc]
  rw [bN_app] at h
  cases a with
  | mark n => exact ih (by simpa [bN] using h)
  | bar x =>
    show (nfA U l).1 ++ (if (nfA U l).2.p.any U then [It.mark x] else []) ++ [It.bar x] ≠ []
    simp
  | rep n c =>
    show apr _ _ _ ≠ []
    unfold apr
    split
    · split <;> simp
    · simp
theorem sh2 {a b : Str} (ha : PyData.strOk a = true) (hb : PyData.strOk b = true) : SeqAt.shaped (.tuple [.str a, .str b]) = true := by
  simp [SeqAt.shaped, PyData.canLay0, PyData.canLayAll0, PyData.depth, PyData.depthAll, ha, hb]
theorem b1s : PyData.strOk "bar" = true := by decide +kernel
theorem b2s : PyData.strOk "mark" = true := by decide +kernel
theorem b3s : PyData.strOk "repeat" = true := by decide +kernel
theorem sc_app1 (l : List SC.It) (a : SC.It) : sc (l ++ [a]) = sc l ++ [a.d] := by simp [sc]
theorem cut_takeG' {l : List D} (p : Nat) : cutD l none (some (p : Int)) = l.take p := by
  unfold cutD
  rw [HT.sIx_nat]
  simp [HT.sIx]
  first | done | (rw [List.take_eq_take_iff]; omega)
theorem eqv2 (a b c d : Str) : PyData.eqv (.tuple [.str a, .str b]) (.tuple [.str c, .str d]) = (a == c && b == d) := by
  simp [PyData.eqv, PyData.eqvAll]
theorem used_any {l pre rest : List SC.It} {x : Str} (e : l = pre ++ (.bar x :: rest)) (ho : ok [] l) (hnd : (bN l).Nodup) : ((l.filterMap (usd l)).any fun z => PyData.eqv z (.str x)) = (ns pre).p.any (ud l) := by
  rw [Bool.eq_iff_iff, List.any_eq_true, List.any_eq_true]
  constructor
  · rintro ⟨z, hz, he⟩
    obtain ⟨it, hi, hu⟩ := List.mem_filterMap.mp hz
    cases it with
    | bar n => cases hu
    | mark n => cases hu
    | rep n c =>
      have hu : ((ns l).f n).map PyData.str = some z := hu
      obtain ⟨y, hy, rfl⟩ := Option.map_eq_some_iff.mp hu
      rw [eqv_str] at he
      have : y = x := by simpa using he
      subst this
      have hb : n ∈ (ns pre).p := by
        rw [e] at hy ho hnd
        exact ns_back rest ho hnd hy
      exact ⟨n, hb, List.any_eq_true.mpr ⟨_, hi, by simp [isRp]⟩⟩
  · rintro ⟨n, hn, hu⟩
    obtain ⟨it, hi, hr⟩ := List.any_eq_true.mp hu
    cases it with
    | bar m => cases hr
    | mark m => cases hr
    | rep m c =>
      have : m = n := by simpa [isRp] using hr
      subst this
      have h1 : (ns (pre ++ [It.bar x])).f m = some x := by
        rw [ns_snoc]
        show (if m ∈ (ns pre).p then some x else (ns pre).f m) = some x
        rw [if_pos hn]
      have h2 := ns_mono h1 rest (by rw [List.append_assoc]; rw [e] at ho; exact ho)
      rw [List.append_assoc] at h2
      have h2 : (ns (pre ++ (It.bar x :: rest))).f m = some x := h2
      rw [← e] at h2
      exact ⟨.str x, List.mem_filterMap.mpr ⟨_, hi, by show ((ns l).f m).map PyData.str = _; rw [h2]; rfl⟩, by rw [eqv_str]; simp⟩
theorem split_at' {l : List SC.It} {i : Nat} {it : SC.It} (h : l[i]? = some it) : l = l.take i ++ (it :: l.drop (i + 1)) := by
  obtain ⟨hi, e⟩ := List.getElem?_eq_some_iff.mp h
  rw [← e]
  simp
theorem ev_oInN' (a : D) (ds : List D) (k : VL.R → Prop) : oIn false a (.list ds) k = (SeqAt.shaped a = true ∧ SeqAt.shaped (.list ds) = true ∧ k (.sh (.bool (ds.any fun z => PyData.eqv z a)))) := rfl
def fs_law_normal : FS := fun io ds Q _ => io = none ∧ ∃ l : List SC.It, ds = [.list (sc l)] ∧ ok [] l ∧ l.length ≤ 290 ∧ smB l = true ∧ Q (.ow (.list (sc (nf l)))) none
def w_law_normal : WS := wSeq (wPar [1, 2] (wsCons (wDict0) (wsCons (wLst (wNil)) (wsNil)))) (wSeq (wFor (wiL (wVar 0)) (wgName 3) (wSeq (wSet 2 (wIf (wT (wOp oEq (wOp oIx (wVar 3) (wC (.int 0))) (wC (.str "mark")))) (wOp oAdd (wVar 2) (wLst (wCons (wOp oIx (wVar 3) (wC (.int 1))) (wNil)))) (wVar 2))) (wIfS (wT (wOp oEq (wOp oIx (wVar 3) (wC (.int 0))) (wC (.str "bar")))) (wSeq (wDrop (wDUpdL 1 (wLc [6] (wiL (wVar 2)) (wgName 6) (wYes) (wTup (wCons (wVar 6) (wCons (wOp oIx (wVar 3) (wC (.int 1))) (wNil))))))) (wSet 2 (wLst (wNil)))) (wNext)))) (wSeq (wSet 4 (wLc [3] (wiL (wVar 0)) (wgName 3) (wT (wOp oEq (wOp oIx (wVar 3) (wC (.int 0))) (wC (.str "repeat")))) (wOp oIx (wVar 1) (wOp oIx (wVar 3) (wC (.int 1)))))) (wSeq (wSet 5 (wLst (wNil))) (wSeq (wFor (wiL (wVar 0)) (wgName 3) (wIfS (wT (wOp oEq (wOp oIx (wVar 3) (wC (.int 0))) (wC (.str "bar")))) (wSet 5 (wOp oAdd (wOp oAdd (wVar 5) (wOp oMul (wLst (wCons (wTup (wCons (wC (.str "mark")) (wCons (wOp oIx (wVar 3) (wC (.int 1))) (wNil)))) (wNil))) (wCB (o1 oInt) (wCons (wOp (oIn false) (wOp oIx (wVar 3) (wC (.int 1))) (wVar 4)) (wNil))))) (wLst (wCons (wVar 3) (wNil))))) (wIfS (wAnd (wT (wOp oEq (wOp oIx (wVar 3) (wC (.int 0))) (wC (.str "repeat")))) (wT (wOp oEq (wSlT (wOp oIx (wVar 5) (wUn (fun a k => isI a fun i => k (.sh (.int (-i)))) (wC (.int 1)))) (wNoP) (wPart (wC (.int 2)))) (wTup (wCons (wC (.str "repeat")) (wCons (wOp oIx (wVar 1) (wOp oIx (wVar 3) (wC (.int 1)))) (wNil))))))) (wLPut 5 (wUn (fun a k => isI a fun i => k (.sh (.int (-i)))) (wC (.int 1))) (wTup (wCons (wC (.str "repeat")) (wCons (wOp oIx (wVar 1) (wOp oIx (wVar 3) (wC (.int 1)))) (wCons (wOp (oII (fun _ _ => True) (· - ·)) (wOp oMul (wOp oAdd (wOp oIx (wOp oIx (wVar 5) (wUn (fun a k => isI a fun i => k (.sh (.int (-i)))) (wC (.int 1)))) (wC (.int 2))) (wC (.int 1))) (wOp oAdd (wOp oIx (wVar 3) (wC (.int 2))) (wC (.int 1)))) (wC (.int 1))) (wNil)))))) (wIfS (wT (wOp oEq (wOp oIx (wVar 3) (wC (.int 0))) (wC (.str "repeat")))) (wDrop (wMut 5 fAppend (wCons (wTup (wCons (wC (.str "repeat")) (wCons (wOp oIx (wVar 1) (wOp oIx (wVar 3) (wC (.int 1)))) (wCons (wOp oIx (wVar 3) (wC (.int 2))) (wNil))))) wNil))) (wNext))))) (wRet (wVar 5))))))
def wt_law_normal_2 : WS := wSeq (wSet 4 (wLc [3] (wiL (wVar 0)) (wgName 3) (wT (wOp oEq (wOp oIx (wVar 3) (wC (.int 0))) (wC (.str "repeat")))) (wOp oIx (wVar 1) (wOp oIx (wVar 3) (wC (.int 1)))))) (wSeq (wSet 5 (wLst (wNil))) (wSeq (wFor (wiL (wVar 0)) (wgName 3) (wIfS (wT (wOp oEq (wOp oIx (wVar 3) (wC (.int 0))) (wC (.str "bar")))) (wSet 5 (wOp oAdd (wOp oAdd (wVar 5) (wOp oMul (wLst (wCons (wTup (wCons (wC (.str "mark")) (wCons (wOp oIx (wVar 3) (wC (.int 1))) (wNil)))) (wNil))) (wCB (o1 oInt) (wCons (wOp (oIn false) (wOp oIx (wVar 3) (wC (.int 1))) (wVar 4)) (wNil))))) (wLst (wCons (wVar 3) (wNil))))) (wIfS (wAnd (wT (wOp oEq (wOp oIx (wVar 3) (wC (.int 0))) (wC (.str "repeat")))) (wT (wOp oEq (wSlT (wOp oIx (wVar 5) (wUn (fun a k => isI a fun i => k (.sh (.int (-i)))) (wC (.int 1)))) (wNoP) (wPart (wC (.int 2)))) (wTup (wCons (wC (.str "repeat")) (wCons (wOp oIx (wVar 1) (wOp oIx (wVar 3) (wC (.int 1)))) (wNil))))))) (wLPut 5 (wUn (fun a k => isI a fun i => k (.sh (.int (-i)))) (wC (.int 1))) (wTup (wCons (wC (.str "repeat")) (wCons (wOp oIx (wVar 1) (wOp oIx (wVar 3) (wC (.int 1)))) (wCons (wOp (oII (fun _ _ => True) (· - ·)) (wOp oMul (wOp oAdd (wOp oIx (wOp oIx (wVar 5) (wUn (fun a k => isI a fun i => k (.sh (.int (-i)))) (wC (.int 1)))) (wC (.int 2))) (wC (.int 1))) (wOp oAdd (wOp oIx (wVar 3) (wC (.int 2))) (wC (.int 1)))) (wC (.int 1))) (wNil)))))) (wIfS (wT (wOp oEq (wOp oIx (wVar 3) (wC (.int 0))) (wC (.str "repeat")))) (wDrop (wMut 5 fAppend (wCons (wTup (wCons (wC (.str "repeat")) (wCons (wOp oIx (wVar 1) (wOp oIx (wVar 3) (wC (.int 1)))) (wCons (wOp oIx (wVar 3) (wC (.int 2))) (wNil))))) wNil))) (wNext))))) (wRet (wVar 5))))
theorem cut_law_normal : w_law_normal = wSeq (wPar [1, 2] (wsCons (wDict0) (wsCons (wLst (wNil)) (wsNil)))) (wSeq (wFor (wiL (wVar 0)) (wgName 3) (wSeq (wSet 2 (wIf (wT (wOp oEq (wOp oIx (wVar 3) (wC (.int 0))) (wC (.str "mark")))) (wOp oAdd (wVar 2) (wLst (wCons (wOp oIx (wVar 3) (wC (.int 1))) (wNil)))) (wVar 2))) (wIfS (wT (wOp oEq (wOp oIx (wVar 3) (wC (.int 0))) (wC (.str "bar")))) (wSeq (wDrop (wDUpdL 1 (wLc [6] (wiL (wVar 2)) (wgName 6) (wYes) (wTup (wCons (wVar 6) (wCons (wOp oIx (wVar 3) (wC (.int 1))) (wNil))))))) (wSet 2 (wLst (wNil)))) (wNext)))) (wt_law_normal_2)) := rfl
theorem fv_law_normal : FnV fs_law_normal 7 w_law_normal := by
  rintro io ds Q X ⟨rfl, l, rfl, ho, hl, hs, q⟩
  show w_law_normal [.sh (.list (sc l)), .no, .no, .no, .no, .no, .no] _ _
  rw [cut_law_normal]
  have hNm := ok_Nmd ho
  have hsz : (sc l).length ≤ 290 := by rw [sc_length]; exact hl
  simp [ev_wFor]
  refine loop_inv (fun i Γ => ∃ (md : List (D × D)) (a2 a3 : Sl), Γ = [.sh (.list (sc l)), .ow (.dict md), a2, a3, .no, .no, .no] ∧ (a3 = .no ∨ ∃ d, a3 = .sh d) ∧ (a2 = .ow (.list ((ns (l.take i)).p.map .str)) ∨ a2 = .sh (.list ((ns (l.take i)).p.map .str))) ∧ md.length + (ns (l.take i)).p.length ≤ i ∧ ∀ m, dget md (.str m) = ((ns (l.take i)).f m).map .str) ⟨[], _, _, rfl, .inl rfl, .inl rfl, Nat.le_refl _, fun m => rfl⟩ ?_ ?_
  · rintro i d Γ k hd ⟨md, a2, a3, rfl, h3, h2, h1, hm⟩ hk
    obtain ⟨it, hit, rfl⟩ := sc_some hd
    have ht := take_snocN hit
    have hi := (List.getElem?_eq_some_iff.mp hit).1
    have hk : ∀ md' a2' a3', (a2' = .ow (.list ((nsS (ns (l.take i)) it).p.map .str)) ∨ a2' = .sh (.list ((nsS (ns (l.take i)) it).p.map .str))) → md'.length + (nsS (ns (l.take i)) it).p.length ≤ i + 1 → (∀ m, dget md' (.str m) = ((nsS (ns (l.take i)) it).f m).map .str) → k [.sh (.list (sc l)), .ow (.dict md'), a2', .sh a3', .no, .no, .no] := fun md' a2' a3' e0 e1 e2 => by
      refine hk _ ⟨md', a2', _, rfl, .inr ⟨a3', rfl⟩, ?_, ?_, ?_⟩
      · rw [ht, ns_snoc]; exact e0
      · rw [ht, ns_snoc]; exact e1
      · rw [ht, ns_snoc]; exact e2
    have hP := nsP_len (l.take i)
    rw [List.length_take] at hP
    have hz : (ns (l.take i)).p.length + 1 ≤ sizeLine := by rw [sizeLine_eq]; omega
    cases it with
    | mark n =>
      have fin := fun a3' => hk md (.ow (.list ((ns (l.take i)).p.map .str ++ [.str n]))) a3' (.inl (by simp [nsS])) (by show md.length + ((ns (l.take i)).p ++ [n]).length ≤ _; simp; omega) hm
      rcases h2 with rfl | rfl
      · simp [It.d, sh_mark, sh_bar, eqv_str, mm, mb]
        exact ⟨hz, fin _⟩
      · simp [It.d, sh_mark, sh_bar, eqv_str, mm, mb]
        exact ⟨hz, fin _⟩
    | rep n c =>
      have fin := fun a3' => hk md (.sh (.list ((ns (l.take i)).p.map .str))) a3' (.inr rfl) (by show md.length + (ns (l.take i)).p.length ≤ _; omega) hm
      rcases h2 with rfl | rfl
      · simp [It.d, sh_rep, sh_mark, sh_bar, eqv_str, rb, rm]
        exact fin _
      · simp [It.d, sh_rep, sh_mark, sh_bar, eqv_str, rb, rm]
        exact fin _
    | bar n =>
      have fin := fun a3' => hk (dmerge ((ns (l.take i)).p.map fun s => ((.inr s : Key), PyData.str n)) md) (.ow (.list [])) a3' (.inl rfl) (by
        have := dmerge_len ((ns (l.take i)).p.map fun s => ((.inr s : Key), PyData.str n)) md
        rw [List.length_map] at this
        show _ + 0 ≤ _
        omega) (fun m => by
        rw [dmerge_nm, hm]
        show _ = Option.map PyData.str (if m ∈ (ns (l.take i)).p then some n else (ns (l.take i)).f m)
        split <;> rfl)
      have lcl : ∀ (kk : List D → Ev → Prop) (Γ : Ev), (∀ Γ', kk ((ns (l.take i)).p.map fun s => .tuple [.str s, .str n]) Γ') → True := fun _ _ _ => trivial
      have hpl : (ns (l.take i)).p.length ≤ 1000000 := by omega
      rcases h2 with rfl | rfl
      all_goals
        simp [It.d, sh_bar, sh_mark, eqv_str, bm, bb]
        rw [ev_wLc]
        simp [okW, wipeE]
        refine lcm_map (ns (l.take i)).p .str (fun s => .tuple [.str s, .str n]) hpl (fun s acc k _ hz hk => ?_) ?_
        · simp [lcT, wipeE]
          exact ⟨hz, hk⟩
        · simp [restE]
          refine ⟨(ns (l.take i)).p.map fun s => ((.inr s : Key), PyData.str n), by rw [List.map_map]; rfl, by rw [sizeLine_eq]; omega, ?_⟩
          exact fin _
  · rintro Γ ⟨md, a2, a3, rfl, h3, h2, h1, hm⟩
    rw [sc_length] at h1 hm h2
    rw [List.take_length] at h1 hm h2
    have hrdy := rdy_of ho (smB_adj hs)
    have hnd := smB_nodup hs
    have hCs := ok_Cs ho
    dsimp only
    unfold wt_law_normal_2
    have ixb : ∀ {n : Str} {x : Str} (k' : VL.R → Prop), (ns l).f n = some x → k' (.sh (.str x)) → oIx (.dict md) (.str n) k' := fun {n x} k' e hk => by
      show (match dget md (.str n) with
        | some d => k' (.sh d)
        | none => False)
      rw [hm, e]
      exact hk
    rw [ev_wSeq, ev_wSet, ev_wLc]
    simp [okW, wipeE]
    have o3 : (match some a3 with
      | some Sl.no => True
      | some (Sl.sh d) => True
      | x => False) := by rcases h3 with rfl | ⟨d, rfl⟩ <;> trivial
    refine ⟨o3, ?_⟩
    refine lcm_some l It.d (usd l) (by omega) (fun it acc k hi hz hk => ?_) ?_
    · cases it with
      | bar n => simp [lcT, It.d, sh_bar, sh_rep, eqv_str, br, usd] at hk ⊢; exact hk
      | mark n => simp [lcT, It.d, sh_mark, sh_rep, eqv_str, mr, usd] at hk ⊢; exact hk
      | rep n c =>
        obtain ⟨l1, l2, e⟩ := List.append_of_mem hi
        obtain ⟨x, hx⟩ := Option.isSome_iff_exists.mp (hrdy l1 n c l2 e)
        have hx2 := ns_mono hx (.rep n c :: l2) (by rw [← e]; exact ho)
        rw [← e] at hx2
        simp [lcT, It.d, sh_rep, eqv_str, rr, wipeE, usd, hx2] at hk ⊢
        exact ixb _ hx2 ⟨hz, hk⟩
    · simp [restE]
      have hU : (l.filterMap (usd l)).length ≤ 290 := Nat.le_trans (List.length_filterMap_le _ _) hl
      have shU : SeqAt.shaped (.list (l.filterMap (usd l))) = true := shaped_of (n := 0) (fun z hz => by
        obtain ⟨it, hi, hu⟩ := List.mem_filterMap.mp hz
        cases it with
        | bar n => cases hu
        | mark n => cases hu
        | rep n c =>
          have hu : ((ns l).f n).map PyData.str = some z := hu
          obtain ⟨y, hy, rfl⟩ := Option.map_eq_some_iff.mp hu
          exact ⟨shaped_str (name_strOk (nsF_name hNm n y hy)), by simp [PyData.depth]⟩) (by decide)
      have hpB := pdB_ok ho (by omega)
      have hnl := nf_len l
      refine loop_inv (fun i Γ => ∃ (a3 : Sl), Γ = [.sh (.list (sc l)), .ow (.dict md), a2, a3, .ow (.list (l.filterMap (usd l))), .ow (.list (sc (nfA (ud l) (l.take i)).1)), .no]) ⟨_, rfl⟩ ?_ ?_
      · rintro i d Γ k hd ⟨a3, rfl⟩ hk
        obtain ⟨it, hit, rfl⟩ := sc_some hd
        have ht := take_snocN hit
        have hi := (List.getElem?_eq_some_iff.mp hit).1
        have es := split_at' hit
        have hk : ∀ a3', k [.sh (.list (sc l)), .ow (.dict md), a2, a3', .ow (.list (l.filterMap (usd l))), .ow (.list (sc (nfS (ud l) (nfA (ud l) (l.take i)) it).1)), .no] := fun a3' => by
          refine hk _ ⟨a3', ?_⟩
          rw [ht, nfA_snoc]
        have hln := nfA_len (ud l) (l.take i)
        rw [List.length_take] at hln
        have hcs := nfA_cs (U := ud l) (l := l.take i) (by rw [es] at hCs; exact hCs.pre)
        have hz2 := nfA_ns (ud l) (l.take i)
        have hnm2 : nameB (iNm it) = true := hNm it (List.mem_of_getElem? hit)
        unfold nfS at hk
        rw [hz2] at hk
        cases it with
        | mark n =>
          simp [It.d, sh_mark, sh_bar, sh_rep, eqv_str, mb, mr]
          exact hk _
        | bar n =>
          have hn : nameB n = true := hnm2
          have ea := used_any es ho hnd
          simp [It.d, sh_bar, eqv_str, bb]
          rw [ev_oInN']
          refine ⟨shaped_str (name_strOk hn), shU, ?_⟩
          rw [ea]
          have hl1 : (sc (nfA (ud l) (l.take i)).1).length ≤ 600 := by rw [sc_length]; omega
          cases hb : (ns (l.take i)).p.any (ud l) with
          | true =>
            have hk2 := hk (.sh (.tuple [.str "bar", .str n]))
            simp [hb, sc_app1, It.d] at hk2
            simp
            refine ⟨by rw [sizeLine_eq]; omega, by rw [sizeLine_eq]; omega, by rw [sizeLine_eq]; simp at hl1 ⊢; omega, ?_⟩
            simpa [sc, It.d] using hk2
          | false =>
            have hk2 := hk (.sh (.tuple [.str "bar", .str n]))
            simp [hb, sc_app1, It.d] at hk2
            simp
            refine ⟨by rw [sizeLine_eq]; omega, by rw [sizeLine_eq]; omega, ?_⟩
            simpa [sc, It.d] using hk2
        | rep n c =>
          obtain ⟨x, hx⟩ := Option.isSome_iff_exists.mp (hrdy (l.take i) n c (l.drop (i + 1)) es)
          have hx2 := ns_mono hx (.rep n c :: l.drop (i + 1)) (by rw [← es]; exact ho)
          rw [← es] at hx2
          have hxn : nameB x = true := nsF_name hNm n x hx2
          have hc : 1 ≤ c := hCs n c (List.mem_of_getElem? hit)
          have hne : (nfA (ud l) (l.take i)).1 ≠ [] := nfA_ne _ fun e => by
            have := ((ns_J (l.take i) (by rw [es] at ho; exact ((ok_app _ _ _).mp ho).1)).2 n x hx).2.2
            rw [e] at this
            cases this
          have hpp : pd (nfA (ud l) (l.take i)).1 * (c + 1) ≤ pd l := by
            rw [hcs.2]
            have e1 : pd (l.take i ++ [It.rep n c]) = pd (l.take i) * (c + 1) := by rw [pd_app]; simp [pd]
            rw [← e1, ← ht]
            have := pd_pre (a := l.take (i + 1)) (b := l.drop (i + 1)) (by rw [List.take_append_drop]; exact hCs)
            rwa [List.take_append_drop] at this
          have hmul := apr_mul (x := x) hcs.1 hc hpp hpB
          have hNf : Nmd (nfA (ud l) (l.take i)).1 := nfA_nm (fun b hb => hNm b (List.mem_of_mem_take hb)) (by rw [es] at hrdy; exact rdy_pre hrdy)
          have hk : ∀ a3', k [.sh (.list (sc l)), .ow (.dict md), a2, a3', .ow (.list (l.filterMap (usd l))), .ow (.list (sc (apr (nfA (ud l) (l.take i)).1 (((ns (l.take i)).f n).getD "") c))), .no] := hk
          rw [hx] at hk
          have hk : ∀ a3', k [.sh (.list (sc l)), .ow (.dict md), a2, a3', .ow (.list (l.filterMap (usd l))), .ow (.list (sc (apr (nfA (ud l) (l.take i)).1 x c))), .no] := hk
          clear hcs hpp hz2
          generalize (nfA (ud l) (l.take i)).1 = is at *
          obtain ⟨js, a, rfl⟩ : ∃ js a, is = js ++ [a] := ⟨is.dropLast, is.getLast hne, (List.dropLast_concat_getLast hne).symm⟩
          have ixl : ∀ k' : VL.R → Prop, k' (.sh a.d) → oIx (.list (sc (js ++ [a]))) (.int (-1)) k' := fun k' hk => by
            show (match atI (sc (js ++ [a])) (-1) with
              | some d => k' (.sh d)
              | none => False)
            rw [sc_app1, SC.atI_last]
            exact hk
          have hjl : js.length ≤ 600 := by rw [List.length_append] at hln; omega
          have hxs := name_strOk hxn
          simp [It.d, sh_rep, sh_bar, eqv_str, rb, rr]
          refine ixl _ ?_
          have other : (∀ c', a ≠ .rep x c') → sc (apr (js ++ [a]) x c) = sc (js ++ [a]) ++ [.tuple [.str "repeat", .str x, .int c]] := fun h => by
            rw [apr_other x c h]
            simp [sc, It.d]
          have hsl : (sc (js ++ [a])).length + 1 ≤ sizeLine := by rw [sc_length, List.length_append, sizeLine_eq, List.length_singleton]; omega
          cases a with
          | bar y =>
            have hy : PyData.strOk y = true := name_strOk (hNf (.bar y) (by simp))
            have ec : cutD [PyData.str "bar", .str y] none (some 2) = [.str "bar", .str y] := cut_takeG' 2
            have hk2 := hk
            rw [other (fun c' e => nomatch e)] at hk2
            simp [It.d, ec]
            refine ixb _ hx2 ?_
            simp [sh2 b1s hy, sh2 b3s hxs, eqv2, br, sh_rep, eqv_str, rr]
            refine ixb _ hx2 ?_
            simp
            exact ⟨hsl, hk2 _⟩
          | mark y =>
            have hy : PyData.strOk y = true := name_strOk (hNf (.mark y) (by simp))
            have ec : cutD [PyData.str "mark", .str y] none (some 2) = [.str "mark", .str y] := cut_takeG' 2
            have hk2 := hk
            rw [other (fun c' e => nomatch e)] at hk2
            simp [It.d, ec]
            refine ixb _ hx2 ?_
            simp [sh2 b2s hy, sh2 b3s hxs, eqv2, mr, sh_rep, eqv_str, rr]
            refine ixb _ hx2 ?_
            simp
            exact ⟨hsl, hk2 _⟩
          | rep y c' =>
            have hy : PyData.strOk y = true := name_strOk (hNf (.rep y c') (by simp))
            have ec : cutD [PyData.str "repeat", .str y, .int c'] none (some 2) = [.str "repeat", .str y] := cut_takeG' 2
            have hk2 := hk
            simp [It.d, ec]
            refine ixb _ hx2 ?_
            by_cases hxy : y = x
            · subst hxy
              rw [apr_same] at hk2
              have hm2 := hmul c' (by simp)
              simp [sh2 b3s hy, sh2 b3s hxs, eqv2, rr, sh_rep, eqv_str]
              refine ixb _ hx2 ?_
              simp
              refine ixl _ ?_
              simp [It.d, hm2]
              have e3 : (sc (js ++ [It.rep y c'])).length = js.length + 1 := by rw [sc_length]; simp
              rw [e3, ixN_last]
              dsimp only
              have hk3 := hk2 (.sh (.tuple [.str "repeat", .str n, .int c]))
              rw [sc_app1] at hk3 ⊢
              have e4 : js.length = (sc js).length := (sc_length js).symm
              rw [e4, set_last]
              exact hk3
            · rw [other (fun c'' e => hxy (by cases e; rfl))] at hk2
              have hxy2 : (y == x) = false := by simpa using hxy
              simp [sh2 b3s hy, sh2 b3s hxs, eqv2, rr, hxy2, hxy, sh_rep, eqv_str]
              refine ixb _ hx2 ?_
              simp
              exact ⟨hsl, hk2 _⟩
      · rintro Γ ⟨a3, rfl⟩
        rw [sc_length, List.take_length]
        simp
        exact q
def az (i : Nat) : Str := ⟨#[97 + i]⟩
def lastMark (l : List SC.It) : Bool := (l.getLast?.map itMark).getD false
def headRep (l : List SC.It) : Bool := (l.head?.map itRep).getD false
theorem adj_app2 : ∀ a b : List SC.It, adj (a ++ b) = (adj a || adj b || (lastMark a && headRep b))
  | [], b => by simp [adj, adjL, lastMark]
  | [x], [] => by simp [adj, adjL, headRep]
  | [x], y :: r => by
    have e1 : adj ([x] ++ y :: r) = ((itMark x && itRep y) || adj (y :: r)) := by simp [adj, adjL]
    rw [e1]
    simp [adj, adjL, lastMark, headRep, Bool.or_comm]
  | x :: y :: r, b => by
    have ih := adj_app2 (y :: r) b
    have e1 : adj (x :: y :: r ++ b) = ((itMark x && itRep y) || adj (y :: r ++ b)) := by simp [adj, adjL]
    have e2 : adj (x :: y :: r) = ((itMark x && itRep y) || adj (y :: r)) := by simp [adj, adjL]
    have e3 : lastMark (x :: y :: r) = lastMark (y :: r) := by simp [lastMark]
    rw [e1, e2, e3, ih]
    simp only [Bool.or_assoc]
def pB (l : List SC.It) (i : Nat) : Bool := (l[i]?.map fun a => !itRep a && !itMark a).getD false
theorem ix_it {l : List SC.It} {i : Nat} {it : SC.It} (k' : VL.R → Prop) (h : l[i]? = some it) (hk : k' (.sh it.d)) : oIx (.list (sc l)) (.int (i : Int)) k' := by
  have hi := (List.getElem?_eq_some_iff.mp h).1
  have hsl := sc_length l
  have e : atI (sc l) (i : Int) = some it.d := by
    unfold atI ixN
    rw [if_pos (by omega), if_pos (by omega)]
    show (sc l)[(i : Int).toNat]? = _
    rw [Int.toNat_natCast]
    simp [sc, h]
  show (match atI (sc l) (i : Int) with
    | some d => k' (.sh d)
    | none => False)
  rw [e]
  exact hk
section
variable {c : Int} {l : List SC.It} {A : List Nat} {w : Int} {a2 : Sl} {Dn : VL.WD} {X : XW}
end
def fs_law_other : FS := fun io ds Q _ => ∃ (c : Int) (l : List SC.It), io = some (.op 1 (.int c)) ∧ 0 ≤ c ∧ c ≤ 900000 ∧ ds = [.list (sc l)] ∧ ok [] l ∧ l.length ≤ 280 ∧ smB l = true ∧ (∀ n, It.mark n ∈ l → n ∈ mkN ∨ n = "last") ∧ (∀ x c, It.rep x c ∈ l → c ≤ 1000000000) ∧ (∀ x ∈ bN l, ∃ y ∈ poolF, Nv x y) ∧
  ∀ (l2 : List SC.It) (c' : Int), ok [] l2 → smB l2 = true → l2.length ≤ 282 → c ≤ c' → c' ≤ c + 10 → Q (.ow (.list (sc l2))) (some (.op 1 (.int c')))
abbrev fs_law_same : FS := fsRec_law_same 2
theorem two_shown {l m : List SC.It} (h : ok [] l) (g : ok [] m) (hl : l.length ≤ 300) (hm : m.length ≤ 300) : SeqAt.shaped (.list [.list (sc l), .list (sc m)]) = true ∧ PyData.showable (.list [.list (sc l), .list (sc m)]) = true ∧ (PyData.shown (.list [.list (sc l), .list (sc m)])).length ≤ sizeLine := by
  obtain ⟨i1, i2, i3, i4, i5⟩ := all_facts (ok_shows h)
  obtain ⟨j1, j2, j3, j4, j5⟩ := all_facts (ok_shows g)
  have c : PyData.canLay0 (.list [.list (sc l), .list (sc m)]) = true := by simp [PyData.canLay0, PyData.canLayAll0, i1, j1]
  have dp : PyData.depth (.list [.list (sc l), .list (sc m)]) ≤ 64 := by simp only [PyData.depth, PyData.depthAll]; omega
  have w : PyData.weight (.list [.list (sc l), .list (sc m)]) ≤ 2 ^ 20 := by simp only [PyData.weight, PyData.weightAll]; omega
  have lay : PyData.layable0 (.list [.list (sc l), .list (sc m)]) = true := by
    unfold PyData.layable0
    rw [c]
    simp [dp, w]
  refine ⟨by unfold SeqAt.shaped; rw [c]; simp [dp], by simp [PyData.showable, PyData.showableAll, i5, j5], ?_⟩
  have := PyData.shown_le_of_layable0 lay (by simp [PyData.intsShort, PyData.intsShortAll, i4, j4])
  rw [sizeLine_eq]
  omega
theorem scV21 {l : List SC.It} {X : Prop} {k : List SC.It → Prop} (h : ok [] l) (hl : l.length ≤ 290) (q : k l) : ScV (.list (sc l)) True X k := ⟨val_sc h (by omega), fun z => by rw [score_ok h] at z; (cases z), fun _ => ⟨l, rfl, h, hl, q⟩⟩
def eqN (l m : List SC.It) : Bool := PyData.eqv (.list (sc (nf l))) (.list (sc (nf m)))
theorem eqv_it' (a b : SC.It) : PyData.eqv a.d b.d = true ↔ a = b := by
  cases a <;> cases b <;> simp [It.d, PyData.eqv, PyData.eqvAll, bm, br, mb, mr, rb, rm] <;> decide
theorem eqvAll_sc' : ∀ a b : List SC.It, PyData.eqvAll (sc a) (sc b) = true ↔ a = b
  | [], [] => by simp [sc, PyData.eqvAll]
  | [], b :: bs => by simp [sc, PyData.eqvAll]
  | a :: as, [] => by simp [sc, PyData.eqvAll]
  | a :: as, b :: bs => by
    have h := eqvAll_sc' as bs
    unfold sc at h ⊢
    rw [List.map_cons, List.map_cons, PyData.eqvAll, Bool.and_eq_true, eqv_it', h, List.cons.injEq]
theorem eqN_iff (a b : List SC.It) : eqN a b = true ↔ nf a = nf b := by
  unfold eqN
  rw [PyData.eqv]
  exact eqvAll_sc' _ _
theorem eqN_comm (a b : List SC.It) : eqN a b = eqN b a := by
  rw [Bool.eq_iff_iff, eqN_iff, eqN_iff]
  exact eq_comm
theorem eq_ask {l m : List SC.It} {Q : VL.R → Option Sl → Prop} {X : Exn → Option Sl → Prop} (h : ok [] l) (hs : smB l = true) (g : ok [] m) (gs : smB m = true) (hl : l.length ≤ 290) (hm : m.length ≤ 290) (q : Q (.sh (.bool (eqN l m))) none) : fs_are_equivalentX none [.list (sc l), .list (sc m)] Q X :=
  ⟨rfl, _, _, rfl, scV21 h hl ⟨fun z => (by rw [hs] at z; cases z), fun _ => scV21 g hm ⟨fun z => (by rw [gs] at z; cases z), fun _ => q⟩⟩⟩
theorem sh_nf {l : List SC.It} (h : ok [] l) (hs : smB l = true) : SeqAt.shaped (.list (sc (nf l))) = true := shaped_sc (nfA_nm (ok_Nmd h) (rdy_of h (smB_adj hs)))
theorem same3 (b : Bool) : SameT 2 (.list [.bool b, .bool b, .bool b]) := .inr ⟨_, .inl rfl, by simp, fun x hx => by
  have : x = .bool b := by simpa using hx
  subst this
  exact .inl trivial⟩
def w_law : WS := wSeq (wDeck 0 1) (wSeq (wFor (wiR1 (wCons (wC (.int 14)) (wNil))) (wgName 2) (wSeq (wSet 3 (wCallIo fs_law_simpleE 1 [] (wCons (wOp oIx (wLst (wCons (wC (.int 12)) (wCons (wC (.int 12)) (wCons (wC (.int 12)) (wCons (wC (.int 60)) (wNil)))))) (wCallIo fs_law_drawX 1 [] (wCons (wC (.int 4)) (wNil)))) (wCons (wOp (oII (fun _ _ => True) (· - ·)) (wOp (oII CPowW fun i j => i ^ j.toNat) (wC (.int 10)) (wC (.int 9))) (wC (.int 2))) (wNil))))) (wSeq (wSet 4 (wCallIo fs_law_other 1 [] (wCons (wVar 3) (wNil)))) (wSeq (wSet 5 (wCB (o1 oRepr) (wCons (wLst (wCons (wVar 3) (wCons (wVar 4) (wNil)))) (wNil)))) (wSeq (wSet 6 (wOp oEq (wCall fs_law_normal [] (wCons (wVar 3) (wNil))) (wCall fs_law_normal [] (wCons (wVar 4) (wNil))))) (wSeq (wSet 7 (wLst (wCons (wCall fs_are_equivalentX [] (wCons (wVar 3) (wCons (wVar 4) (wNil)))) (wCons (wCall fs_are_equivalentX [] (wCons (wVar 4) (wCons (wVar 3) (wNil)))) (wNil))))) (wSeq (wIfS (wNot (wT (wCall fs_law_same [] (wCons (wOp oAdd (wVar 7) (wLst (wCons (wCallKw fs_are_equivalentX [1, 0] 2 (wCons (wVar 4) (wCons (wVar 3) (wNil)))) (wNil)))) (wCons (wOp oMul (wLst (wCons (wVar 6) (wNil))) (wC (.int 3))) (wNil)))))) (wRet (wC (.bool false))) (wNext)) (wIfS (wOr (wT (wOp oNotIsB (wCall fs_are_equivalentX [] (wCons (wVar 3) (wCons (wCB (o1 oList) (wCons (wVar 3) (wNil))) (wNil)))) (wC (.bool true)))) (wT (wOp oNeS (wCB (o1 oRepr) (wCons (wLst (wCons (wVar 3) (wCons (wVar 4) (wNil)))) (wNil))) (wVar 5)))) (wRet (wC (.bool false))) (wNext))))))))) (wRet (wOp oIsB (wCall fs_are_equivalentX [] (wCons (wLst (wNil)) (wCons (wLst (wCons (wTup (wCons (wC (.str "mark")) (wCons (wC (.str "a")) (wNil)))) (wNil))) (wNil)))) (wC (.bool true)))))
theorem fv_law : FnV fsLaw 8 w_law := by
  rintro io ds Q X ⟨ns, hn, rfl, rfl, q⟩
  show w_law [.op 0 (.list (ns.map .int)), .no, .no, .no, .no, .no, .no, .no] _ _
  simp [w_law, ev_wFor]
  refine ⟨⟨ns, rfl, hn⟩, ?_⟩
  refine loop_inv (fun i Γ => ∃ (c : Int) (a2 a3 a4 a5 a6 a7 : Sl), Γ = [.op 0 (.list (ns.map .int)), .op 11 (.int c), a2, a3, a4, a5, a6, a7] ∧ 0 ≤ c ∧ c ≤ 7000 * i) ⟨0, _, _, _, _, _, _, rfl, by omega, by omega⟩ ?_ ?_
  · rintro i x Γ k hx ⟨c, a2, a3, a4, a5, a6, a7, rfl, c0, c1⟩ hk
    have hi := (List.getElem?_eq_some_iff.mp hx).1
    simp [rangeD] at hi
    simp only [rangeD, List.getElem?_map] at hx
    rw [List.getElem?_range hi] at hx
    cases (Option.some.inj hx)
    have t9 : CPowW 10 9 := pow10 9 (by decide) (by decide)
    simp
    refine dk (by omega) (by omega) (by omega) (by omega) fun r r0 r1 => ?_
    simp
    refine pick r0 (by simpa using r1) fun z hz => ?_
    obtain ⟨most, rfl, m0, m1⟩ : ∃ v : Int, z = .int v ∧ 0 ≤ v ∧ v ≤ 60 := by
      simp at hz
      rcases hz with rfl | rfl
      all_goals exact ⟨_, rfl, by decide, by decide⟩
    simp [t9]
    refine ⟨_, most, 999999998, rfl, by omega, by omega, rfl, m0, m1, by decide, by decide, fun l ca ho hl _ hs _ hmk hcn hbn g0 g1 => ?_⟩
    simp
    refine ⟨ca, l, rfl, by omega, by omega, rfl, ho, hl, hs, hmk, hcn, hbn, fun m cb go gs gl g2 g3 => ?_⟩
    obtain ⟨r1, r2, r3⟩ := two_shown ho go (by omega) (by omega)
    have n1 := sh_nf ho hs
    have n2 := sh_nf go gs
    have ec := eqN_comm m l
    have e1 : PyData.eqv (.list (sc (nf l))) (.list (sc (nf m))) = eqN l m := rfl
    simp [oRepr, r1, r2, r3]
    refine ⟨rfl, l, rfl, ho, by omega, hs, ?_⟩
    simp
    refine ⟨rfl, m, rfl, go, by omega, gs, ?_⟩
    simp [n1, n2]
    rw [e1]
    refine eq_ask ho hs go gs (by omega) (by omega) ?_
    simp
    refine eq_ask go gs ho hs (by omega) (by omega) ?_
    rw [ec]
    simp
    have er : reord [1, 0] [PyData.list (sc m), .list (sc l)] = [.list (sc l), .list (sc m)] := rfl
    rw [er]
    refine eq_ask ho hs go gs (by omega) (by omega) ?_
    have z3 : 3 ≤ sizeLine := by rw [sizeLine_eq]; omega
    simp [z3]
    refine ⟨rfl, _, rfl, same3 _, ?_⟩
    have ol : ∀ k : VL.R → Prop, oList (.list (sc l)) k = k (.ow (.list (sc l))) := fun k => rfl
    simp [ol]
    refine eq_ask ho hs ho hs (by omega) (by omega) ?_
    have el : eqN l l = true := (eqN_iff l l).mpr rfl
    simp [el, oNotIsB]
    simp [oRepr, r1, r2, r3, oNeS]
    exact hk _ ⟨cb, _, _, _, _, _, _, rfl, by omega, by omega⟩
  · rintro Γ ⟨c, a2, a3, a4, a5, a6, a7, rfl, c0, c1⟩
    simp
    have e1 : PyData.list ([] : List D) = .list (sc []) := rfl
    have e2 : PyData.list [PyData.tuple [PyData.str "mark", PyData.str "a"]] = .list (sc [.mark "a"]) := rfl
    have o1 : ok [] [It.mark "a"] := ⟨by decide +kernel, by simp, trivial⟩
    rw [e1, e2]
    refine eq_ask trivial (by decide +kernel) o1 (by decide +kernel) (by simp) (by simp) ?_
    have el : eqN [] [It.mark "a"] = true := (eqN_iff _ _).mpr rfl
    simp [el, oIsB]
    exact q _ (by simp)
end K21

set_option Elab.async false
set_option linter.all false
set_option maxRecDepth 100000
set_option pp.maxSteps 600
set_option maxHeartbeats 400000
namespace SC
open PySem L2 VL
def okw : List Str → List It → Prop
  | _, [] => True
  | ms, .bar n :: r => nameB n = true ∧ okw ms r
  | ms, .mark n :: r => nameB n = true ∧ n ∉ ms ∧ okw (n :: ms) r
  | ms, .rep n c :: r => nameB n = true ∧ n ∈ ms ∧ 1 ≤ c ∧ okw ms r
theorem ok_okw : ∀ {l : List It} {ms : List Str}, ok ms l → okw ms l
  | [], _, _ => trivial
  | .bar n :: r, ms, h => ⟨h.1, ok_okw h.2⟩
  | .mark n :: r, ms, h => ⟨h.1, h.2.1, ok_okw h.2.2⟩
  | .rep n c :: r, ms, h => ⟨h.1, h.2.1, h.2.2.1.1, ok_okw h.2.2.2⟩
theorem okw_app : ∀ (a b : List It) (ms : List Str), okw ms (a ++ b) ↔ okw ms a ∧ okw (mk ms a) b
  | [], b, ms => by simp [okw, mk]
  | .bar n :: a, b, ms => by simp only [List.cons_append, okw, mk, okw_app a b ms, and_assoc]
  | .mark n :: a, b, ms => by simp only [List.cons_append, okw, mk, okw_app a b (n :: ms), and_assoc]
  | .rep n c :: a, b, ms => by simp only [List.cons_append, okw, mk, okw_app a b ms, and_assoc]
theorem okw_Nmd : ∀ {l : List It} {ms : List Str}, okw ms l → Nmd l
  | [], _, _ => fun _ h => nomatch h
  | .bar n :: r, ms, h => fun a ha => by
    rcases List.mem_cons.mp ha with rfl | ha
    · exact h.1
    · exact okw_Nmd h.2 a ha
  | .mark n :: r, ms, h => fun a ha => by
    rcases List.mem_cons.mp ha with rfl | ha
    · exact h.1
    · exact okw_Nmd h.2.2 a ha
  | .rep n c :: r, ms, h => fun a ha => by
    rcases List.mem_cons.mp ha with rfl | ha
    · exact h.1
    · exact okw_Nmd h.2.2.2 a ha
theorem okw_Cs : ∀ {l : List It} {ms : List Str}, okw ms l → Cs l
  | [], _, _ => fun _ _ h => nomatch h
  | .bar n :: r, ms, h => fun m c ha => by
    rcases List.mem_cons.mp ha with e | ha
    · cases e
    · exact okw_Cs h.2 m c ha
  | .mark n :: r, ms, h => fun m c ha => by
    rcases List.mem_cons.mp ha with e | ha
    · cases e
    · exact okw_Cs h.2.2 m c ha
  | .rep n d :: r, ms, h => fun m c ha => by
    rcases List.mem_cons.mp ha with e | ha
    · cases e; exact h.2.2.1
    · exact okw_Cs h.2.2.2 m c ha
def pdS (l : List It) : Prop := pd l < ((2 ^ 100000 : Nat) : Int)
theorem loop_is_scoreW (Dn : VL.WD) (X : XW) (z : D) : ∀ (l : List It) (ms : List Str) (ps : List (D × D)) (n : Nat) (a b : Sl), okw ms l → Marks ps ms → ps.length ≤ n → n + l.length ≤ 1000 → (∀ (ps : List (D × D)) (a b : Sl), Dn.nx [.sh z, .ow (.dict ps), a, b]) →
    loopW (wgTup 2 (wgCons (wgName 2) (wgCons (wgName 3) (wgNil)))) (wSeq (wIfS (wNot (wT (wCallB fs_is_item [] (wCons (wVar 3) (wCons (wVar 1) (wNil)))))) (wRet (wC (.bool false))) (wNext)) (wIfS (wT (wOp oEq (wOp oIx (wVar 3) (wC (.int 0))) (wC (.str "mark")))) (wDPut 1 (wOp oIx (wVar 3) (wC (.int 1))) (wVar 2)) (wNext))) Dn X (enumF n (sc l)) [.sh z, .ow (.dict ps), a, b]
  | [], ms, ps, n, a, b, _, _, _, _, q => q ps a b
  | it :: l, ms, ps, n, a, b, h, hm, hl, hn, q => by
    have hn2 : n + 1 + l.length ≤ 1000 := by rw [List.length_cons] at hn; omega
    have hz : ps.length < sizeLine := small (by rw [List.length_cons] at hn; omega)
    rw [show sc (it :: l) = it.d :: sc l from rfl, enumF, ev_loop_cons]
    cases it with
    | bar nm =>
      simp
      refine ⟨rfl, .bar nm, ps, rfl, h.1, ?_⟩
      simp [It.d, flatR, flatD, sh_bar, sh_mark, eqv_str, bm]
      exact loop_is_scoreW Dn X z l ms ps (n + 1) _ _ h.2 hm (by omega) hn2 q
    | mark nm =>
      simp
      refine ⟨rfl, .mark nm, ps, rfl, ⟨h.1, by have := hm nm; simpa [h.2.1] using this⟩, ?_⟩
      simp [It.d, flatR, flatD, sh_bar, sh_mark, eqv_str, mm, owW]
      exact ⟨hz, loop_is_scoreW Dn X z l (nm :: ms) _ (n + 1) _ _ h.2.2 (hm.put nm _) (Nat.le_trans (dput_len _ _ _) (by omega)) hn2 q⟩
    | rep nm c =>
      simp
      refine ⟨rfl, .rep nm c, ps, rfl, ⟨h.1, by rw [hm nm]; simpa using h.2.1, h.2.2.1⟩, ?_⟩
      simp [It.d, flatR, flatD, sh_rep, sh_mark, eqv_str, rm]
      exact loop_is_scoreW Dn X z l ms ps (n + 1) _ _ h.2.2.2 hm (by omega) hn2 q
def fs_is_scoreW : FS := fun io ds Q _ => io = none ∧ ∃ l : List It, ds = [.list (sc l)] ∧ okw [] l ∧ l.length ≤ 1000 ∧ Q (.sh (.bool true)) none
def w_is_scoreW : WS := wSeq (wIfS (wNot (wT (wIsi "list" (wVar 0)))) (wRet (wC (.bool false))) (wNext)) (wSeq (wSet 1 (wDict0)) (wSeq (wFor (wiA enumD (wCons (wVar 0) (wNil))) (wgTup 2 (wgCons (wgName 2) (wgCons (wgName 3) (wgNil)))) (wSeq (wIfS (wNot (wT (wCallB fs_is_item [] (wCons (wVar 3) (wCons (wVar 1) (wNil)))))) (wRet (wC (.bool false))) (wNext)) (wIfS (wT (wOp oEq (wOp oIx (wVar 3) (wC (.int 0))) (wC (.str "mark")))) (wDPut 1 (wOp oIx (wVar 3) (wC (.int 1))) (wVar 2)) (wNext)))) (wRet (wC (.bool true)))))
theorem fv_is_scoreW : FnV fs_is_scoreW 4 w_is_scoreW := by
  rintro io ds Q X ⟨rfl, l, rfl, h, hl, q⟩
  show w_is_scoreW [.sh (.list (sc l)), .no, .no, .no] _ _
  simp [w_is_scoreW, ev_wFor, enumD_eq]
  exact loop_is_scoreW _ _ (.list (sc l)) l [] [] 0 .no .no h (fun n => by simp [dget]) (Nat.le_refl _) (by omega) fun ps a b => by simp; exact q
def fs_require_scoreW : FS := fun io ds Q _ => io = none ∧ ∃ l : List It, ds = [.list (sc l)] ∧ okw [] l ∧ l.length ≤ 1000 ∧ Q (.sh .none) none
def w_require_scoreW : WS := wIfS (wNot (wT (wCall fs_is_scoreW [] (wCons (wVar 0) (wNil))))) (wNev) (wNext)
theorem fv_require_scoreW : FnV fs_require_scoreW 1 w_require_scoreW := by
  rintro io ds Q X ⟨rfl, l, rfl, h, hl, q⟩
  show w_require_scoreW [.sh (.list (sc l))] _ _
  simp [w_require_scoreW]
  refine ⟨rfl, l, rfl, h, hl, ?_⟩
  simp
  exact q
def fs_mark_indicesW : FS := fun io ds Q _ => io = none ∧ ∃ l : List It, ds = [.list (sc l)] ∧ okw [] l ∧ l.length ≤ 1000 ∧ ∀ ps, MI ps l → Q (.ow (.dict ps)) none
def w_mark_indicesW : WS := wRet (wDc [1, 2] (wiA enumD (wCons (wVar 0) (wNil))) (wgTup 2 (wgCons (wgName 1) (wgCons (wgName 2) (wgNil)))) (wT (wOp oEq (wOp oIx (wVar 2) (wC (.int 0))) (wC (.str "mark")))) (wOp oIx (wVar 2) (wC (.int 1))) (wVar 1))
theorem dc_marksW (z : D) (k : List (D × D) → Ev → Prop) : ∀ (l : List It) (ms : List Str) (acc : List (D × D)) (n : Nat), okw ms l → acc.length ≤ n → n + l.length ≤ 1000 → Marks acc ms →
    (∀ ps, (∀ m v, dget acc (.str m) = some v → dget ps (.str m) = some v) → (∀ m (j : Nat), l[j]? = some (.mark m) → dget ps (.str m) = some (.int ((n + j : Nat) : Int))) → k ps [.sh z, .no, .no]) →
    dcW [1, 2] (wgTup 2 (wgCons (wgName 1) (wgCons (wgName 2) (wgNil)))) (wT (wOp oEq (wOp oIx (wVar 2) (wC (.int 0))) (wC (.str "mark")))) (wOp oIx (wVar 2) (wC (.int 1))) (wVar 1) k (enumF n (sc l)) acc [.sh z, .no, .no]
  | [], ms, acc, n, _, _, _, _, q => q acc (fun _ _ h => h) fun m j h => by simp at h
  | it :: l, ms, acc, n, h, hl, hn, hm, q => by
    have hn2 : n + 1 + l.length ≤ 1000 := by rw [List.length_cons] at hn; omega
    have hz : acc.length < sizeLine := small (by rw [List.length_cons] at hn; omega)
    have nx : ∀ ms' acc', okw ms' l → acc'.length ≤ n + 1 → Marks acc' ms' → (∀ m v, dget acc (.str m) = some v → dget acc' (.str m) = some v) → (∀ m, it = .mark m → dget acc' (.str m) = some (.int (n : Int))) →
        dcW [1, 2] (wgTup 2 (wgCons (wgName 1) (wgCons (wgName 2) (wgNil)))) (wT (wOp oEq (wOp oIx (wVar 2) (wC (.int 0))) (wC (.str "mark")))) (wOp oIx (wVar 2) (wC (.int 1))) (wVar 1) k (enumF (n + 1) (sc l)) acc' [.sh z, .no, .no] :=
      fun ms' acc' h1 h2 h3 h4 h5 => dc_marksW z k l ms' acc' (n + 1) h1 h2 hn2 h3 fun ps p1 p2 => q ps (fun m v e => p1 m v (h4 m v e)) fun m j e => by
        cases j with
        | zero =>
          have : it = .mark m := by simpa using e
          exact p1 m _ (h5 m this)
        | succ j =>
          rw [p2 m j (by simpa using e)]
          congr 2
          omega
    rw [show sc (it :: l) = it.d :: sc l from rfl, enumF, dcW]
    cases it with
    | bar nm =>
      simp [It.d, sh_bar, sh_mark, eqv_str, bm, wipeE]
      exact nx ms acc h.2 (by omega) hm (fun _ _ e => e) fun m e => by cases e
    | mark nm =>
      simp [It.d, sh_mark, eqv_str, mm, wipeE]
      refine ⟨hz, nx (nm :: ms) _ h.2.2 (Nat.le_trans (dput_len _ _ _) (by omega)) (hm.put nm _) (fun m v e => ?_) fun m e => ?_⟩
      · rw [dget_putS]
        have : m ∈ ms := by
          have := hm m
          rw [e] at this
          simpa using this
        rw [if_neg fun z => h.2.1 (by rw [z]; exact this)]
        exact e
      · cases e
        rw [dget_putS, if_pos rfl]
    | rep nm c =>
      simp [It.d, sh_rep, sh_mark, eqv_str, rm, wipeE]
      exact nx ms acc h.2.2.2 (by omega) hm (fun _ _ e => e) fun m e => by cases e
theorem fv_mark_indicesW : FnV fs_mark_indicesW 3 w_mark_indicesW := by
  rintro io ds Q X ⟨rfl, l, rfl, h, hl, q⟩
  show w_mark_indicesW [.sh (.list (sc l)), .no, .no] _ _
  simp only [w_mark_indicesW, ev_wRet, ev_wDc, ev_wiA, ev_wCons, ev_wNil, ev_wVar, getS_0, slVar_sh, ev_frAll_cons, ev_frAll_nil, ev_fr_sh, enumD_eq]
  refine ⟨⟨trivial, trivial, trivial⟩, dc_marksW (.list (sc l)) _ l [] [] 0 h (Nat.le_refl _) (by omega) (fun n => by simp [dget]) fun ps _ p => ?_⟩
  exact ⟨trivial, q ps fun n j e => by rw [p n j e]; congr 2; omega⟩
theorem ok_markW : ∀ {l : List It} {ms : List Str} {i : Nat} {n : Str} {c : Int}, okw ms l → l[i]? = some (.rep n c) → n ∈ ms ∨ ∃ j, j < i ∧ l[j]? = some (.mark n)
  | [], _, _, _, _, _, e => by simp at e
  | it :: l, ms, 0, n, c, h, e => by
    have : it = .rep n c := by simpa using e
    subst this
    exact .inl h.2.1
  | it :: l, ms, i + 1, n, c, h, e => by
    have e : l[i]? = some (.rep n c) := by simpa using e
    cases it with
    | bar m =>
      rcases ok_markW h.2 e with z | ⟨j, h1, h2⟩
      · exact .inl z
      · exact .inr ⟨j + 1, by omega, by simpa using h2⟩
    | rep m d =>
      rcases ok_markW h.2.2.2 e with z | ⟨j, h1, h2⟩
      · exact .inl z
      · exact .inr ⟨j + 1, by omega, by simpa using h2⟩
    | mark m =>
      rcases ok_markW h.2.2 e with z | ⟨j, h1, h2⟩
      · rcases List.mem_cons.mp z with rfl | z
        · exact .inr ⟨0, by omega, rfl⟩
        · exact .inl z
      · exact .inr ⟨j + 1, by omega, by simpa using h2⟩
def fs_segment_startsW : FS := fun io ds Q _ => io = none ∧ ∃ l : List It, ds = [.list (sc l)] ∧ okw [] l ∧ l.length ≤ 1000 ∧ ∀ ps, SS ps l → Q (.ow (.dict ps)) none
def w_segment_startsW : WS := wSeq (wSet 1 (wCall fs_mark_indicesW [] (wCons (wVar 0) (wNil)))) (wRet (wDc [2, 3] (wiA enumD (wCons (wVar 0) (wNil))) (wgTup 2 (wgCons (wgName 2) (wgCons (wgName 3) (wgNil)))) (wT (wOp oEq (wOp oIx (wVar 3) (wC (.int 0))) (wC (.str "repeat")))) (wVar 2) (wOp oAdd (wOp oIx (wVar 1) (wOp oIx (wVar 3) (wC (.int 1)))) (wC (.int 1)))))
theorem dc_startsW (L : List It) (mps : List (D × D)) (hMI : MI mps L) (hok : okw [] L) (z : D) (k : List (D × D) → Ev → Prop) : ∀ (l : List It) (acc : List (D × D)) (n : Nat), L.drop n = l → acc.length ≤ n → n + l.length ≤ 1000 →
    (∀ ps, (∀ (i : Nat) v, i < n → dget acc (.int (i : Int)) = some v → dget ps (.int (i : Int)) = some v) → (∀ (i : Nat) nm c, n ≤ i → L[i]? = some (.rep nm c) → ∃ j : Nat, j < i ∧ L[j]? = some (.mark nm) ∧ dget ps (.int (i : Int)) = some (.int ((j : Int) + 1))) → k ps [.sh z, .ow (.dict mps), .no, .no]) →
    dcW [2, 3] (wgTup 2 (wgCons (wgName 2) (wgCons (wgName 3) (wgNil)))) (wT (wOp oEq (wOp oIx (wVar 3) (wC (.int 0))) (wC (.str "repeat")))) (wVar 2) (wOp oAdd (wOp oIx (wVar 1) (wOp oIx (wVar 3) (wC (.int 1)))) (wC (.int 1))) k (enumF n (sc l)) acc [.sh z, .ow (.dict mps), .no, .no]
  | [], acc, n, hd, _, _, q => q acc (fun _ _ _ h => h) fun i nm c hi e => by
      have : L.length ≤ n := by simpa using hd
      have := (List.getElem?_eq_some_iff.mp e).1
      omega
  | it :: l, acc, n, hd, hl, hn, q => by
    have hn2 : n + 1 + l.length ≤ 1000 := by rw [List.length_cons] at hn; omega
    have hz : acc.length < sizeLine := small (by rw [List.length_cons] at hn; omega)
    have hit : L[n]? = some it := by
      have := congrArg (·[0]?) hd
      simpa using this
    have hd2 : L.drop (n + 1) = l := by
      have := congrArg (List.drop 1) hd
      simpa [Nat.add_comm] using this
    have nx : ∀ acc', acc'.length ≤ n + 1 → (∀ (i : Nat) v, i < n → dget acc (.int (i : Int)) = some v → dget acc' (.int (i : Int)) = some v) → (∀ nm c, it = .rep nm c → ∃ j : Nat, j < n ∧ L[j]? = some (.mark nm) ∧ dget acc' (.int (n : Int)) = some (.int ((j : Int) + 1))) →
        dcW [2, 3] (wgTup 2 (wgCons (wgName 2) (wgCons (wgName 3) (wgNil)))) (wT (wOp oEq (wOp oIx (wVar 3) (wC (.int 0))) (wC (.str "repeat")))) (wVar 2) (wOp oAdd (wOp oIx (wVar 1) (wOp oIx (wVar 3) (wC (.int 1)))) (wC (.int 1))) k (enumF (n + 1) (sc l)) acc' [.sh z, .ow (.dict mps), .no, .no] :=
      fun acc' h1 h2 h3 => dc_startsW L mps hMI hok z k l acc' (n + 1) hd2 h1 hn2 fun ps p1 p2 => q ps (fun i v hi e => p1 i v (by omega) (h2 i v hi e)) fun i nm c hi e => by
        by_cases hin : i = n
        · subst hin
          rw [hit] at e
          obtain ⟨j, j1, j2, j3⟩ := h3 nm c (Option.some.inj e)
          exact ⟨j, j1, j2, p1 i _ (by omega) j3⟩
        · exact p2 i nm c (by omega) e
    rw [show sc (it :: l) = it.d :: sc l from rfl, enumF, dcW]
    cases it with
    | bar nm =>
      simp [It.d, sh_bar, sh_rep, eqv_str, br, wipeE]
      exact nx acc (by omega) (fun _ _ _ e => e) fun m c e => by cases e
    | mark nm =>
      simp [It.d, sh_mark, sh_rep, eqv_str, mr, wipeE]
      exact nx acc (by omega) (fun _ _ _ e => e) fun m c e => by cases e
    | rep nm c =>
      rcases ok_markW hok hit with zz | ⟨j, j1, j2⟩
      · cases zz
      · simp [It.d, sh_rep, eqv_str, rr, wipeE, ev_rd_vr, ev_ixd, hMI nm j j2]
        refine ⟨hz, nx _ (Nat.le_trans (dput_len _ _ _) (by omega)) (fun i v hi e => ?_) fun m d e => ?_⟩
        · rw [dget_putI, if_neg (by omega)]
          exact e
        · cases e
          exact ⟨j, j1, j2, by rw [dget_putI, if_pos rfl]⟩
theorem fv_segment_startsW : FnV fs_segment_startsW 4 w_segment_startsW := by
  rintro io ds Q X ⟨rfl, l, rfl, h, hl, q⟩
  show w_segment_startsW [.sh (.list (sc l)), .no, .no, .no] _ _
  simp only [w_segment_startsW, ev_wSeq, ev_wSet, ev_wCall, ev_wCons, ev_wNil, ev_wVar, getS_0, slVar_sh, ev_frAll_cons, ev_frAll_nil, ev_fr_sh, List.append_nil]
  refine ⟨rfl, l, rfl, h, hl, fun mps hMI => ?_⟩
  simp only [ev_setR_ow, List.set_cons_succ, List.set_cons_zero, ev_wRet, ev_wDc, ev_wiA, ev_wCons, ev_wNil, ev_wVar, getS_0, slVar_sh, ev_frAll_cons, ev_frAll_nil, ev_fr_sh, enumD_eq]
  refine ⟨⟨trivial, trivial, trivial⟩, dc_startsW l mps hMI h (.list (sc l)) _ l [] 0 rfl (Nat.le_refl _) (by omega) fun ps _ p => ?_⟩
  exact ⟨trivial, q ps fun i n c e => p i n c (by omega) e⟩
theorem ok_freshW : ∀ {l : List It} {ms : List Str} {i : Nat} {n : Str}, okw ms l → l[i]? = some (.mark n) → n ∉ ms
  | [], _, _, _, _, e => by simp at e
  | it :: l, ms, 0, n, h, e => by
    have : it = .mark n := by simpa using e
    subst this
    exact h.2.1
  | it :: l, ms, i + 1, n, h, e => by
    have e : l[i]? = some (.mark n) := by simpa using e
    cases it with
    | bar m => exact ok_freshW h.2 e
    | rep m d => exact ok_freshW h.2.2.2 e
    | mark m => exact fun z => ok_freshW h.2.2 e (List.mem_cons_of_mem _ z)
theorem ok_uniqW : ∀ {l : List It} {ms : List Str} {i j : Nat} {n : Str}, okw ms l → l[i]? = some (.mark n) → l[j]? = some (.mark n) → i = j
  | [], _, _, _, _, _, e, _ => by simp at e
  | it :: l, ms, 0, 0, n, _, _, _ => rfl
  | it :: l, ms, 0, j + 1, n, h, e, e2 => by
    have : it = .mark n := by simpa using e
    subst this
    exact absurd List.mem_cons_self (ok_freshW (i := j) h.2.2 (by simpa using e2))
  | it :: l, ms, i + 1, 0, n, h, e, e2 => by
    have : it = .mark n := by simpa using e2
    subst this
    exact absurd List.mem_cons_self (ok_freshW (i := i) h.2.2 (by simpa using e))
  | it :: l, ms, i + 1, j + 1, n, h, e, e2 => by
    have e : l[i]? = some (.mark n) := by simpa using e
    have e2 : l[j]? = some (.mark n) := by simpa using e2
    congr 1
    cases it with
    | bar m => exact ok_uniqW h.2 e e2
    | rep m d => exact ok_uniqW h.2.2.2 e e2
    | mark m => exact ok_uniqW h.2.2 e e2
theorem mark_timeW {l : List It} {p : Sta} (h : okw [] l) {j : Nat} {n : Str} (hj : l[j]? = some (.mark n)) : ∀ i, j < i → i ≤ l.length → (st p (l.take i)).1 n = (st p (l.take (j + 1))).2 := by
  intro i
  induction i with
  | zero => intro z; omega
  | succ i ih =>
    intro hji hil
    have hi : i < l.length := by omega
    have e := st_take (p := p) (List.getElem?_eq_getElem hi)
    by_cases hij : j = i
    · subst hij
      rw [List.getElem?_eq_getElem hi] at hj
      rw [e, Option.some.inj hj]
      simp [stp]
    · rw [e, ← ih (by omega) (by omega)]
      cases q : l[i] with
      | bar m => rfl
      | rep m c => rfl
      | mark m =>
        have : ¬ n = m := fun z => hij (ok_uniqW h hj (by rw [List.getElem?_eq_getElem hi, q, z]))
        simp [stp, this]
theorem stm_le {l : List It} (h : Cs l) : (∀ n, n ≤ l.length → 0 ≤ (st p0 (l.take n)).2 ∧ (st p0 (l.take n)).2 ≤ (n : Int) * pd (l.take n) ∧ ∀ m, 0 ≤ (st p0 (l.take n)).1 m ∧ (st p0 (l.take n)).1 m ≤ (st p0 (l.take n)).2) := by
  intro n
  induction n with
  | zero => intro _; exact ⟨Int.le_refl 0, by simp [st, p0], fun m => ⟨Int.le_refl 0, Int.le_refl 0⟩⟩
  | succ n ih =>
    intro hn
    have hi : n < l.length := by omega
    obtain ⟨h1, h2, h3⟩ := ih (by omega)
    have hg := List.getElem?_eq_getElem hi
    have ht := take_snocN hg
    have hp := pd_pos (l := l.take n) fun a c hm => h a c (List.mem_of_mem_take hm)
    rw [st_take hg, ht, pd_app]
    have en : ((n + 1 : Nat) : Int) = (n : Int) + 1 := by omega
    rw [en, Int.add_mul, Int.one_mul]
    cases hit : l[n] with
    | bar m =>
      have e : pd [It.bar m] = 1 := by simp [pd]
      rw [e, Int.mul_one]
      refine ⟨by show 0 ≤ (st p0 (l.take n)).2 + 1; omega, by show (st p0 (l.take n)).2 + 1 ≤ _; omega, fun x => ?_⟩
      have := h3 x
      show 0 ≤ (st p0 (l.take n)).1 x ∧ (st p0 (l.take n)).1 x ≤ (st p0 (l.take n)).2 + 1
      omega
    | mark m =>
      have e : pd [It.mark m] = 1 := by simp [pd]
      rw [e, Int.mul_one]
      refine ⟨h1, by show (st p0 (l.take n)).2 ≤ _; omega, fun x => ?_⟩
      show 0 ≤ (if x = m then (st p0 (l.take n)).2 else (st p0 (l.take n)).1 x) ∧ (if x = m then (st p0 (l.take n)).2 else (st p0 (l.take n)).1 x) ≤ (st p0 (l.take n)).2
      have := h3 x
      split <;> omega
    | rep m c =>
      have hc := h m c (by rw [← hit]; exact List.getElem_mem hi)
      have e : pd [It.rep m c] = c + 1 := by simp [pd]
      rw [e]
      have h3m := h3 m
      have l0 : 0 ≤ c * ((st p0 (l.take n)).2 - (st p0 (l.take n)).1 m) := Int.mul_nonneg (by omega) (by omega)
      have l1 : c * ((st p0 (l.take n)).2 - (st p0 (l.take n)).1 m) ≤ c * (st p0 (l.take n)).2 := Int.mul_le_mul_of_nonneg_left (by omega) (by omega)
      have l2 : (st p0 (l.take n)).2 * (c + 1) ≤ (n : Int) * pd (l.take n) * (c + 1) := Int.mul_le_mul_of_nonneg_right h2 (by omega)
      have l3 : 0 ≤ pd (l.take n) * (c + 1) := Int.mul_nonneg (by omega) (by omega)
      rw [Int.mul_add, Int.mul_one, Int.mul_comm _ c] at l2
      rw [Int.mul_assoc] at l2
      refine ⟨?_, ?_, fun x => ?_⟩
      · show 0 ≤ (st p0 (l.take n)).2 + c * ((st p0 (l.take n)).2 - (st p0 (l.take n)).1 m); omega
      · show (st p0 (l.take n)).2 + c * ((st p0 (l.take n)).2 - (st p0 (l.take n)).1 m) ≤ _; omega
      · have := h3 x
        show 0 ≤ (st p0 (l.take n)).1 x ∧ (st p0 (l.take n)).1 x ≤ (st p0 (l.take n)).2 + c * ((st p0 (l.take n)).2 - (st p0 (l.take n)).1 m)
        omega
theorem mulW {l : List It} (h : Cs l) (hp : pdS l) (hl : l.length ≤ 1000) {n : Nat} {nm : Str} {c : Int} (hit : l[n]? = some (.rep nm c)) : CMulW c ((st p0 (l.take n)).2 - (st p0 (l.take n)).1 nm) := by
  have hi := (List.getElem?_eq_some_iff.mp hit).1
  obtain ⟨h1, h2, h3⟩ := stm_le h n (by omega)
  have h3 := h3 nm
  have hc := h nm c (List.mem_of_getElem? hit)
  have hcs : Cs (l.take n) := fun a d hm => h a d (List.mem_of_mem_take hm)
  have q0 := pd_pos hcs
  have q1 : pd (l.take n) * (c + 1) ≤ pd l := by
    have ht := take_snocN hit
    have e1 : pd (l.take n ++ [It.rep nm c]) = pd (l.take n) * (c + 1) := by rw [pd_app]; simp [pd]
    rw [← e1, ← ht]
    have := pd_pre (a := l.take (n + 1)) (b := l.drop (n + 1)) (by rw [List.take_append_drop]; exact h)
    rwa [List.take_append_drop] at this
  have q2 : pd (l.take n) * 1 ≤ pd (l.take n) * (c + 1) := Int.mul_le_mul_of_nonneg_left (by omega) (by omega)
  have q3 : 1 * (c + 1) ≤ pd (l.take n) * (c + 1) := Int.mul_le_mul_of_nonneg_right (by omega) (by omega)
  have q4 : (n : Int) * pd (l.take n) ≤ 1000 * pd (l.take n) := Int.mul_le_mul_of_nonneg_right (by omega) (by omega)
  unfold pdS at hp
  have e : (2 : Nat) ^ (100000 + 10) = 2 ^ 100000 * 2 ^ 10 := Nat.pow_add 2 100000 10
  refine wide_mul (a := 100000) (b := 100000 + 10) ?_ ?_ (by decide) (by decide) (by decide)
  · generalize (2 : Nat) ^ 100000 = P at *
    omega
  · rw [e]
    generalize (2 : Nat) ^ 100000 = P at *
    omega
def fs_arrival_timesW : FS := fun io ds Q _ => io = none ∧ ∃ l : List It, ds = [.list (sc l)] ∧ okw [] l ∧ pdS l ∧ l.length ≤ 1000 ∧ Q (.ow (.list ((run p0 l).map .int))) none
def w_arrival_timesW : WS := wSeq (wSet 1 (wCall fs_segment_startsW [] (wCons (wVar 0) (wNil)))) (wSeq (wSet 2 (wLst (wCons (wC (.int 0)) (wNil)))) (wSeq (wFor (wiA enumD (wCons (wVar 0) (wNil))) (wgTup 2 (wgCons (wgName 3) (wgCons (wgName 4) (wgNil)))) (wSeq (wSet 5 (wOp oIx (wVar 2) (wUn (fun a k => isI a fun i => k (.sh (.int (-i)))) (wC (.int 1))))) (wIfS (wT (wOp oEq (wOp oIx (wVar 4) (wC (.int 0))) (wC (.str "repeat")))) (wDrop (wMut 2 fAppend (wCons (wOp oAdd (wVar 5) (wOp oMul (wOp oIx (wVar 4) (wC (.int 2))) (wOp (oII (fun _ _ => True) (· - ·)) (wVar 5) (wOp oIx (wVar 2) (wOp oIx (wVar 1) (wVar 3)))))) wNil))) (wDrop (wMut 2 fAppend (wCons (wOp oAdd (wVar 5) (wCB (o1 oInt) (wCons (wOp oEq (wOp oIx (wVar 4) (wC (.int 0))) (wC (.str "bar"))) (wNil)))) wNil)))))) (wRet (wVar 2))))
theorem loop_timesW (L : List It) (sps : List (D × D)) (hSS : SS sps L) (hok : okw [] L) (hpd : pdS L) (hlen : L.length ≤ 1000) (Dn : VL.WD) (X : XW) (z : D) : ∀ (l : List It) (n : Nat) (a b c : Sl), L.drop n = l → n ≤ L.length →
    (∀ a b c : Sl, Dn.nx [.sh z, .ow (.dict sps), .ow (.list ((run p0 L).map .int)), a, b, c]) →
    loopW (wgTup 2 (wgCons (wgName 3) (wgCons (wgName 4) (wgNil)))) (wSeq (wSet 5 (wOp oIx (wVar 2) (wUn (fun a k => isI a fun i => k (.sh (.int (-i)))) (wC (.int 1))))) (wIfS (wT (wOp oEq (wOp oIx (wVar 4) (wC (.int 0))) (wC (.str "repeat")))) (wDrop (wMut 2 fAppend (wCons (wOp oAdd (wVar 5) (wOp oMul (wOp oIx (wVar 4) (wC (.int 2))) (wOp (oII (fun _ _ => True) (· - ·)) (wVar 5) (wOp oIx (wVar 2) (wOp oIx (wVar 1) (wVar 3)))))) wNil))) (wDrop (wMut 2 fAppend (wCons (wOp oAdd (wVar 5) (wCB (o1 oInt) (wCons (wOp oEq (wOp oIx (wVar 4) (wC (.int 0))) (wC (.str "bar"))) (wNil)))) wNil)))))
      Dn X (enumF n (sc l)) [.sh z, .ow (.dict sps), .ow (.list (((run p0 L).take (n + 1)).map .int)), a, b, c]
  | [], n, a, b, c, hd, hn, q => by
    have : L.length ≤ n := by simpa using hd
    have e : (run p0 L).take (n + 1) = run p0 L := List.take_of_length_le (by rw [run_length]; omega)
    rw [e]
    exact q a b c
  | it :: l, n, a, b, c, hd, hn, q => by
    have hit : L[n]? = some it := by
      have := congrArg (·[0]?) hd
      simpa using this
    have hd2 : L.drop (n + 1) = l := by
      have := congrArg (List.drop 1) hd
      simpa [Nat.add_comm] using this
    have hnl : n < L.length := (List.getElem?_eq_some_iff.mp hit).1
    have hlast : (((run p0 L).take (n + 1)).map PyData.int).getLast? = some (.int (st p0 (L.take n)).2) := by rw [List.getLast?_map, take_run (by omega)]; rfl
    have hz : (((run p0 L).take (n + 1)).map PyData.int).length < sizeLine := by
      rw [List.length_map, List.length_take]
      exact small (by omega)
    have nx := fun a b c => loop_timesW L sps hSS hok hpd hlen Dn X z l (n + 1) a b c hd2 (by omega) q
    rw [take_run_succ hit, List.map_append] at nx
    have hts : ∀ nm c, it = .rep nm c → ∃ j : Nat, dget sps (.int (n : Int)) = some (.int ((j : Int) + 1)) ∧ (((run p0 L).take (n + 1)).map PyData.int)[j + 1]? = some (.int ((st p0 (L.take n)).1 nm)) ∧ CMulW c ((st p0 (L.take n)).2 - (st p0 (L.take n)).1 nm) := by
      rintro nm c rfl
      obtain ⟨j, j1, j2, j3⟩ := hSS n nm c hit
      refine ⟨j, j3, ?_, ?_⟩
      · rw [List.getElem?_map, List.getElem?_take_of_lt (by omega), run_get L p0 (j + 1) (by omega), ← mark_timeW hok j2 n j1 (by omega)]
        rfl
      · exact mulW (okw_Cs hok) hpd hlen hit
    rw [List.map_cons, List.map_nil] at nx
    generalize ((run p0 L).take (n + 1)).map PyData.int = B at *
    rw [show sc (it :: l) = it.d :: sc l from rfl, enumF, ev_loop_cons]
    cases it with
    | bar nm =>
      simp [It.d, sh_bar, sh_rep, eqv_str, br, bb, ix_lastE hlast]
      exact ⟨hz, nx _ _ _⟩
    | mark nm =>
      simp [It.d, sh_bar, sh_mark, sh_rep, eqv_str, mr, mb, ix_lastE hlast]
      exact ⟨hz, nx _ _ _⟩
    | rep nm c =>
      obtain ⟨j, j3, ht, hm⟩ := hts nm c rfl
      have ht2 := fun k => ix_lnE (k := k) ht
      rw [Int.natCast_add] at ht2
      simp [It.d, sh_rep, eqv_str, rr, ix_lastE hlast, ev_ixd, j3]
      have ht3 := ht2
      simp at ht3
      simp [ht3, hm]
      exact ⟨hz, nx _ _ _⟩
theorem fv_arrival_timesW : FnV fs_arrival_timesW 6 w_arrival_timesW := by
  rintro io ds Q X ⟨rfl, l, rfl, h, hpd, hl, q⟩
  show w_arrival_timesW [.sh (.list (sc l)), .no, .no, .no, .no, .no] _ _
  simp [w_arrival_timesW, ev_wFor, enumD_eq]
  refine ⟨rfl, l, rfl, h, hl, fun sps hSS => ?_⟩
  simp
  have e : [PyData.int 0] = ((run p0 l).take (0 + 1)).map .int := by cases l <;> rfl
  rw [e]
  exact loop_timesW l sps hSS h hpd hl _ _ (.list (sc l)) l 0 .no .no .no rfl (by omega) fun a b c => by simp; exact q
def fs_length_ofW : FS := fun io ds Q _ => io = none ∧ ∃ l : List It, ds = [.list (sc l)] ∧ okw [] l ∧ pdS l ∧ l.length ≤ 1000 ∧ Q (.sh (.int (total l))) none
def w_length_ofW : WS := wRet (wOp oIx (wCall fs_arrival_timesW [] (wCons (wVar 0) (wNil))) (wUn (fun a k => isI a fun i => k (.sh (.int (-i)))) (wC (.int 1))))
theorem fv_length_ofW : FnV fs_length_ofW 1 w_length_ofW := by
  rintro io ds Q X ⟨rfl, l, rfl, h, hp, hl, q⟩
  show w_length_ofW [.sh (.list (sc l))] _ _
  simp [w_length_ofW]
  refine ⟨rfl, l, rfl, h, hp, hl, ?_⟩
  simp [ix_lastE (run_last l)]
  exact q
def fs_total_lengthW : FS := fun io ds Q _ => io = none ∧ ∃ l : List It, ds = [.list (sc l)] ∧ okw [] l ∧ pdS l ∧ l.length ≤ 1000 ∧ Q (.sh (.int (total l))) none
def w_total_lengthW : WS := wSeq (wDrop (wCall fs_require_scoreW [] (wCons (wVar 0) (wNil)))) (wRet (wCall fs_length_ofW [] (wCons (wVar 0) (wNil))))
theorem fv_total_lengthW : FnV fs_total_lengthW 1 w_total_lengthW := by
  rintro io ds Q X ⟨rfl, l, rfl, h, hp, hl, q⟩
  show w_total_lengthW [.sh (.list (sc l))] _ _
  simp [w_total_lengthW]
  refine ⟨rfl, l, rfl, h, hl, ?_⟩
  simp
  refine ⟨rfl, l, rfl, h, hp, hl, ?_⟩
  simp
  exact q
def fs_is_simpleW : FS := fun io ds Q _ => io = none ∧ ∃ l : List It, ds = [.list (sc l)] ∧ okw [] l ∧ l.length ≤ 1000 ∧ Q (.sh (.bool (smB l))) none
def w_is_simpleW : WS := wSeq (wDrop (wCall fs_require_scoreW [] (wCons (wVar 0) (wNil)))) (wRet (wCall fs_has_simple_form [] (wCons (wVar 0) (wNil))))
theorem fv_is_simpleW : FnV fs_is_simpleW 1 w_is_simpleW := by
  rintro io ds Q X ⟨rfl, l, rfl, h, hl, q⟩
  show w_is_simpleW [.sh (.list (sc l))] _ _
  simp [w_is_simpleW]
  refine ⟨rfl, l, rfl, h, hl, ?_⟩
  simp
  refine ⟨rfl, l, rfl, hl, ?_⟩
  simp
  exact q
def fs_require_simpleW : FS := fun io ds Q _ => io = none ∧ ∃ l : List It, ds = [.list (sc l)] ∧ okw [] l ∧ l.length ≤ 1000 ∧ smB l = true ∧ Q (.sh .none) none
def w_require_simpleW : WS := wSeq (wDrop (wCall fs_require_scoreW [] (wCons (wVar 0) (wNil)))) (wIfS (wNot (wT (wCall fs_has_simple_form [] (wCons (wVar 0) (wNil))))) (wNev) (wNext))
theorem fv_require_simpleW : FnV fs_require_simpleW 1 w_require_simpleW := by
  rintro io ds Q X ⟨rfl, l, rfl, h, hl, hs, q⟩
  show w_require_simpleW [.sh (.list (sc l))] _ _
  simp [w_require_simpleW]
  refine ⟨rfl, l, rfl, h, hl, ?_⟩
  simp
  refine ⟨rfl, l, rfl, hl, ?_⟩
  simp [hs]
  exact q
theorem rdy_okw {l : List It} (h : okw [] l) (ha : adj l = false) : rdy l := by
  rintro l1 n c l2 rfl
  have e : (l1 ++ It.rep n c :: l2)[l1.length]? = some (.rep n c) := by simp
  rcases ok_markW h e with q | ⟨j, hj, ej⟩
  · cases q
  · rw [List.getElem?_append_left hj] at ej
    have := ns_has l1 n (List.mem_of_getElem? ej)
    rw [nsP_nil l1 n c l2 ha] at this
    exact this.resolve_left (fun q => nomatch q)
theorem pdS_B {l : List It} (h : pdS l) (hc : Cs l) : pdB (pd l) := by
  unfold pdB
  have := pd_pos hc
  unfold pdS at h
  refine Nat.lt_of_lt_of_le (PySem.Flt.log2_lt_of (k := 100000) (by decide) (by omega)) (by decide)
def fs_normal_formW : FS := fun io ds Q _ => io = none ∧ ∃ l : List It, ds = [.list (sc l)] ∧ okw [] l ∧ pdS l ∧ l.length ≤ 1000 ∧ smB l = true ∧ Q (.ow (.list (sc (nf l)))) none
def w_normal_formW : WS := wSeq (wDrop (wCall fs_require_simpleW [] (wCons (wVar 0) (wNil)))) (wRet (wCall fs_normalized [] (wCons (wVar 0) (wNil))))
theorem fv_normal_formW : FnV fs_normal_formW 1 w_normal_formW := by
  rintro io ds Q X ⟨rfl, l, rfl, h, hp, hl, hs, q⟩
  show w_normal_formW [.sh (.list (sc l))] _ _
  simp [w_normal_formW]
  refine ⟨rfl, l, rfl, h, hl, hs, ?_⟩
  simp
  exact ⟨rfl, l, rfl, by omega, okw_Nmd h, okw_Cs h, pdS_B hp (okw_Cs h), rdy_okw h (smB_adj hs), q⟩
theorem idx_markW {l : List It} (hok : okw [] l) {j : Nat} {nm : Str} (hj : l[j]? = some (.mark nm)) {k : R → Prop} (q : k (.sh (.int (j : Int)))) : oIdx (.list (sc l)) [.tuple [.str "mark", .str nm]] k := by
  have hnm : nameB nm = true := okw_Nmd hok (.mark nm) (List.mem_of_getElem? hj)
  have hsm : SeqAt.shaped (.tuple [.str "mark", .str nm]) = true := by
    have b2 : PyData.strOk "mark" = true := by decide +kernel
    simp [SeqAt.shaped, PyData.canLay0, PyData.canLayAll0, PyData.depth, PyData.depthAll, b2, name_strOk hnm]
  rw [ev_idx]
  refine ⟨shaped_sc (okw_Nmd hok), hsm, j, .tuple [.str "mark", .str nm], by rw [sc, List.getElem?_map, hj]; rfl, by simp [PyData.eqv, PyData.eqvAll], fun m' z' hm' hz' => ?_, q⟩
  rw [sc, List.getElem?_map] at hz'
  cases hx : l[m']? with
  | none => rw [hx] at hz'; cases hz'
  | some y =>
    rw [hx] at hz'
    cases (Option.some.inj hz')
    cases y with
    | bar b => simp [It.d, PyData.eqv, PyData.eqvAll, bm]
    | rep b c => simp [It.d, PyData.eqv, PyData.eqvAll, rm]
    | mark b =>
      have hb : ¬ b = nm := fun e => by
        subst e
        have := ok_uniqW hok hj hx
        omega
      simp [It.d, PyData.eqv, PyData.eqvAll, hb]
def fs_law_startsW : FS := fun io ds Q _ => io = none ∧ ∃ l : List It, ds = [.list (sc l)] ∧ okw [] l ∧ l.length ≤ 1000 ∧ ∀ ps, SS ps l → Q (.ow (.dict ps)) none
def w_law_startsW : WS := wSeq (wSet 1 (wDict0)) (wSeq (wFor (wiA enumD (wCons (wVar 0) (wNil))) (wgTup 2 (wgCons (wgName 2) (wgCons (wgName 3) (wgNil)))) (wIfS (wT (wOp oEq (wOp oIx (wVar 3) (wC (.int 0))) (wC (.str "repeat")))) (wDPut 1 (wVar 2) (wOp oAdd (wMR "list" oIdx (wVar 0) (wCons (wTup (wCons (wC (.str "mark")) (wCons (wOp oIx (wVar 3) (wC (.int 1))) (wNil)))) wNil)) (wC (.int 1)))) (wNext))) (wRet (wVar 1)))
theorem fv_law_startsW : FnV fs_law_startsW 4 w_law_startsW := by
  rintro io ds Q X ⟨rfl, l, rfl, h, hl, q⟩
  show w_law_startsW [.sh (.list (sc l)), .no, .no, .no] _ _
  simp [w_law_startsW, ev_wFor, enumD_eq]
  refine loop_inv (fun i Γ => ∃ (ps : List (D × D)) (a2 a3 : Sl), Γ = [.sh (.list (sc l)), .ow (.dict ps), a2, a3] ∧ ps.length ≤ i ∧ ∀ (m : Nat) n c, m < i → l[m]? = some (.rep n c) → ∃ j : Nat, j < m ∧ l[j]? = some (.mark n) ∧ dget ps (.int (m : Int)) = some (.int ((j : Int) + 1))) ⟨[], _, _, rfl, Nat.le_refl _, fun m n c hm => absurd hm (by omega)⟩ ?_ ?_
  · rintro i d Γ k hd ⟨ps, a2, a3, rfl, pl, hp⟩ hk
    obtain ⟨it, hit, rfl⟩ := enumF_it hd
    have hi := (List.getElem?_eq_some_iff.mp hit).1
    have keep : (∀ n c, it ≠ .rep n c) → ∀ a2 a3, k [.sh (.list (sc l)), .ow (.dict ps), a2, a3] := fun hr a2 a3 => hk _ ⟨ps, a2, a3, rfl, by omega, fun m n c hm e => by
      by_cases z : m = i
      · subst z
        rw [hit] at e
        exact absurd (Option.some.inj e) (hr n c)
      · exact hp m n c (by omega) e⟩
    cases it with
    | bar nm =>
      simp [It.d, sh_bar, sh_rep, eqv_str, br]
      exact keep (fun n c e => by cases e) _ _
    | mark nm =>
      simp [It.d, sh_mark, sh_rep, eqv_str, mr]
      exact keep (fun n c e => by cases e) _ _
    | rep nm c =>
      rcases ok_markW h hit with z | ⟨j, j1, j2⟩
      · cases z
      simp [-ev_idx, It.d, sh_rep, eqv_str, rr]
      refine idx_markW h j2 ?_
      simp
      refine ⟨small (by omega), hk _ ⟨_, .sh (.int (i : Int)), .sh (.tuple [.str "repeat", .str nm, .int c]), rfl, Nat.le_trans (dput_len _ _ _) (by omega), fun m n d hm e => ?_⟩⟩
      by_cases z : m = i
      · subst z
        rw [hit] at e
        cases (Option.some.inj e)
        exact ⟨j, j1, j2, by rw [dget_putI, if_pos rfl]⟩
      · obtain ⟨j', a, b, cc⟩ := hp m n d (by omega) e
        exact ⟨j', a, b, by rw [dget_putI, if_neg (by omega)]; exact cc⟩
  · rintro Γ ⟨ps, a2, a3, rfl, pl, hp⟩
    have el : (enumF 0 (sc l)).length = l.length := by rw [enumF_length, sc_length]
    rw [el] at hp
    simp
    exact q ps fun m n c e => hp m n c (List.getElem?_eq_some_iff.mp e).1 e
def fs_law_timesW : FS := fun io ds Q _ => io = none ∧ ∃ l : List It, ds = [.list (sc l)] ∧ okw [] l ∧ pdS l ∧ l.length ≤ 1000 ∧ Q (.ow (.list ((run p0 l).map .int))) none
def w_law_timesW : WS := wSeq (wPar [1, 2] (wsCons (wCall fs_law_startsW [] (wCons (wVar 0) (wNil))) (wsCons (wLst (wCons (wC (.int 0)) (wNil))) (wsNil)))) (wSeq (wFor (wiA enumD (wCons (wVar 0) (wNil))) (wgTup 2 (wgCons (wgName 3) (wgCons (wgName 4) (wgNil)))) (wSeq (wSet 5 (wIf (wT (wOp oEq (wOp oIx (wVar 4) (wC (.int 0))) (wC (.str "bar")))) (wC (.int 1)) (wC (.int 0)))) (wSeq (wIfS (wT (wOp oEq (wOp oIx (wVar 4) (wC (.int 0))) (wC (.str "repeat")))) (wSet 5 (wOp oMul (wOp oIx (wVar 4) (wC (.int 2))) (wOp (oII (fun _ _ => True) (· - ·)) (wOp oIx (wVar 2) (wVar 3)) (wOp oIx (wVar 2) (wOp oIx (wVar 1) (wVar 3)))))) (wNext)) (wDrop (wMut 2 fAppend (wCons (wOp oAdd (wOp oIx (wVar 2) (wUn (fun a k => isI a fun i => k (.sh (.int (-i)))) (wC (.int 1)))) (wVar 5)) wNil)))))) (wRet (wVar 2)))
theorem fv_law_timesW : FnV fs_law_timesW 6 w_law_timesW := by
  rintro io ds Q X ⟨rfl, l, rfl, h, hpd, hl, q⟩
  show w_law_timesW [.sh (.list (sc l)), .no, .no, .no, .no, .no] _ _
  simp [w_law_timesW, ev_wFor, enumD_eq]
  refine ⟨rfl, l, rfl, h, hl, fun sps hSS => ?_⟩
  simp
  have e0 : [PyData.int 0] = ((run p0 l).take (0 + 1)).map .int := by cases l <;> rfl
  rw [e0]
  refine loop_inv (fun n Γ => ∃ a3 a4 a5 : Sl, Γ = [.sh (.list (sc l)), .ow (.dict sps), .ow (.list (((run p0 l).take (n + 1)).map .int)), a3, a4, a5]) ⟨_, _, _, rfl⟩ ?_ ?_
  · rintro n d Γ k hd ⟨a3, a4, a5, rfl⟩ hk
    obtain ⟨it, hit, rfl⟩ := enumF_it hd
    have hnl := (List.getElem?_eq_some_iff.mp hit).1
    have hlast : (((run p0 l).take (n + 1)).map PyData.int).getLast? = some (.int (st p0 (l.take n)).2) := by rw [List.getLast?_map, take_run (by omega)]; rfl
    have hz : (((run p0 l).take (n + 1)).map PyData.int).length < sizeLine := by
      rw [List.length_map, List.length_take]
      exact small (by omega)
    have nx := fun a b c => hk [.sh (.list (sc l)), .ow (.dict sps), .ow (.list (((run p0 l).take (n + 1 + 1)).map .int)), a, b, c] ⟨a, b, c, rfl⟩
    rw [take_run_succ hit, List.map_append] at nx
    have hat : (((run p0 l).take (n + 1)).map PyData.int)[n]? = some (.int (st p0 (l.take n)).2) := by
      rw [List.getElem?_map, List.getElem?_take_of_lt (by omega), run_get l p0 n (by omega)]
      rfl
    have hts : ∀ nm c, it = .rep nm c → ∃ j : Nat, dget sps (.int (n : Int)) = some (.int ((j : Int) + 1)) ∧ (((run p0 l).take (n + 1)).map PyData.int)[j + 1]? = some (.int ((st p0 (l.take n)).1 nm)) ∧ CMulW c ((st p0 (l.take n)).2 - (st p0 (l.take n)).1 nm) := by
      rintro nm c rfl
      obtain ⟨j, j1, j2, j3⟩ := hSS n nm c hit
      refine ⟨j, j3, ?_, mulW (okw_Cs h) hpd hl hit⟩
      rw [List.getElem?_map, List.getElem?_take_of_lt (by omega), run_get l p0 (j + 1) (by omega), ← mark_timeW h j2 n j1 (by omega)]
      rfl
    rw [List.map_cons, List.map_nil] at nx
    generalize ((run p0 l).take (n + 1)).map PyData.int = B at *
    cases it with
    | bar nm =>
      simp [It.d, sh_bar, sh_rep, eqv_str, br, bb, ix_lastE hlast]
      exact ⟨hz, nx _ _ _⟩
    | mark nm =>
      have e : (stp (st p0 (l.take n)) (.mark nm)).2 = (st p0 (l.take n)).2 := rfl
      rw [e] at nx
      simp [It.d, sh_bar, sh_mark, sh_rep, eqv_str, mr, mb, ix_lastE hlast]
      exact ⟨hz, nx _ _ _⟩
    | rep nm c =>
      obtain ⟨j, j3, ht, hm⟩ := hts nm c rfl
      have ht2 := fun k => ix_lnE (k := k) ht
      have hat2 := fun k => ix_lnE (k := k) hat
      rw [Int.natCast_add] at ht2
      have ht3 := ht2
      simp at ht3
      simp [It.d, sh_bar, sh_rep, eqv_str, rr, rb, ix_lastE hlast, ev_ixd, j3, hat2, ht3, hm]
      exact ⟨hz, nx _ _ _⟩
  · rintro Γ ⟨a3, a4, a5, rfl⟩
    have el : (enumF 0 (sc l)).length = l.length := by rw [enumF_length, sc_length]
    rw [el, List.take_of_length_le (by rw [run_length]; omega)]
    simp
    exact q
end SC

set_option Elab.async false
set_option linter.all false
set_option maxRecDepth 100000
namespace VL
open PySem L2

section
variable {K : Fg} {Hi H : Hp} {a : Addr} {u u' : HO} {kvs : List (Key × V)}
end
section
variable {G : Gb} {C : Cf} {Hi H : Hp} {σ : St} {Γ : Ev} {a : Addr} {u u' : HO} {kvs : List (Key × V)}
def swpC (C : Cf) (a : Addr) (o : HO) : Cf := ⟨swp C.H0 a o, swp C.I0 a o, C.io, fun b hb => by
  have := C.iot b hb
  by_cases z : b = a
  · subst z
    cases e : C.H0 b with
    | none => exact absurd e this
    | some v => rw [swp_at e]; simp
  · rw [swp_ne z]; exact this, C.pa⟩
theorem Core.swp {fp : Nat → List Addr} (c : Core G C Hi σ H Γ fp) (ha : Hi a = some u) (d : Dual kvs u u') : Core G (swpC C a u') (swp Hi a u') σ (swp H a u') Γ fp := by
  have hHa := c.imm _ _ ha
  have nfp : ∀ i, i < Γ.length → ∀ b ∈ fp i, b ≠ a := fun i hi b hb z => by
    have := c.av i b hi hb
    rw [z, ha] at this; cases this
  refine ⟨fun b o h n => ?_, fun b h => ?_, fun b o h => ?_, fun b o h => ?_, fun b o h => ?_, c.len, fun i s hs => ?_, c.dj, fun i b hi hb => ?_⟩
  · rcases swp_some h with ⟨rfl, rfl, _⟩ | ⟨z, h⟩
    · exact swp_at hHa
    · rw [swp_ne z]; exact c.frame b o h n
  · by_cases z : b = a
    · subst z; rw [swp_at hHa]; simp
    · rw [swp_ne z]
      refine c.live b fun e => h ?_
      show VL.swp C.H0 a u' b = none
      rw [swp_ne z]; exact e
  · rcases swp_some h with ⟨rfl, rfl, _⟩ | ⟨z, h⟩
    · exact swp_at hHa
    · rw [swp_ne z]; exact c.imm b o h
  · rcases swp_some h with ⟨rfl, rfl, _⟩ | ⟨z, h⟩
    · exact swp_at ha
    · rw [swp_ne z]; exact c.base b o h
  · rcases swp_some h with ⟨rfl, rfl, _⟩ | ⟨z, h⟩
    · rcases c.ov _ _ ha with q | q
      · exact .inl (swp_at q)
      · exact .inr (swp_none q)
    · rcases c.ov b o h with q | q
      · exact .inl (by show VL.swp C.I0 a u' b = _; rw [swp_ne z]; exact q)
      · exact .inr (by show VL.swp C.H0 a u' b = _; rw [swp_ne z]; exact q)
  · obtain ⟨x, hx, ok⟩ := c.sl i s hs
    have hi := (List.getElem?_eq_some_iff.mp hs).1
    have nf := nfp i hi
    refine ⟨x, hx, ?_⟩
    cases s with
    | no => exact ok
    | sh d' => obtain ⟨h0, v, h1, h2⟩ := ok; exact ⟨h0, v, h1, Rep.swp ha d h2⟩
    | ow d' =>
      obtain ⟨p, h0, h1, h2, h3⟩ := ok
      have zp : p ≠ a := nf p (by rw [h0]; simp)
      refine ⟨p, h0, h1, ?_, by show VL.swp C.H0 a u' p = _; rw [swp_ne zp]; exact h3⟩
      cases h2 with
      | lst g r => exact .lst (by rw [swp_ne zp]; exact g) (Reps.swp ha d r)
      | dct g r => exact .dct (by rw [swp_ne zp]; exact g) (RepKV.swp ha d r)
    | io d' =>
      obtain ⟨p, h0, h1, h2, h3⟩ := ok
      have zp : p ≠ a := nf p (by rw [h0]; simp)
      refine ⟨p, h0, h1, ?_, h3⟩
      cases h2 with
      | lst g r => exact .lst (by rw [swp_ne zp]; exact g) (Reps.swp ha d r)
      | dct g r => exact .dct (by rw [swp_ne zp]; exact g) (RepKV.swp ha d r)
    | op t d' =>
      obtain ⟨p, h1, h2, h3, h4⟩ := ok
      refine ⟨p, h1, G.Op.swp h2 ha d nf, fun b hb => ?_, h4⟩
      rcases h3 b hb with q | q
      · exact .inl (by show VL.swp C.H0 a u' b = _; rw [swp_ne (nf b hb)]; exact q)
      · exact .inr q
  · rw [swp_ne (nfp i hi b hb)]
    exact c.av i b hi hb
theorem Rel.swp (c : Rel G C Hi σ H Γ) (ha : Hi a = some u) (d : Dual kvs u u') : Rel G (swpC C a u') (swp Hi a u') σ (swp H a u') Γ :=
  let ⟨_, c⟩ := c
  ⟨_, c.swp ha d⟩
theorem swp2_none {H0 : Hp} {a b : Addr} {o o2 : HO} : VL.swp (VL.swp H0 a o) a o2 b = none ↔ H0 b = none := by
  by_cases z : b = a
  · subst z
    cases e : H0 b with
    | none => rw [swp_none (swp_none e)]
    | some v => rw [swp_at (swp_at e)]; simp
  · rw [swp_ne z, swp_ne z]
theorem swp2_some {H0 : Hp} {a b : Addr} {o o2 v : HO} (h : H0 b = some v) (e : b = a → v = o2) : VL.swp (VL.swp H0 a o) a o2 b = some v := by
  by_cases z : b = a
  · have ev := e z
    subst z
    rw [ev]
    exact swp_at (swp_at h)
  · rw [swp_ne z, swp_ne z]; exact h
theorem Core.unswp {fp : Nat → List Addr} (c : Core G (swpC C a u') Hi σ H Γ fp) (ha : Hi a = some u') (d : Dual kvs u' u) (f1 : ∀ o, C.H0 a = some o → ¬ C.io a → o = u) (f2 : ∀ o, C.I0 a = some o → o = u) (f3 : C.I0 a = some u ∨ C.H0 a = none) :
    Core G C (VL.swp Hi a u) σ (VL.swp H a u) Γ fp := by
  have c2 := c.swp ha d
  have hia : VL.swp Hi a u a = some u := swp_at ha
  refine ⟨fun b o h n => c2.frame b o (swp2_some h fun z => f1 o (z ▸ h) (z ▸ n)) n, fun b h => c2.live b fun z => h (swp2_none.mp z), c2.imm, fun b o h => c2.base b o (swp2_some h fun z => f2 o (z ▸ h)), fun b o h => ?_, c2.len, fun i s hs => ?_, c2.dj, c2.av⟩
  · by_cases z : b = a
    · subst z
      rw [hia] at h
      cases h
      exact f3
    · rcases c2.ov b o h with q | q
      · have q : VL.swp (VL.swp C.I0 a u') a u b = some o := q
        rw [swp_ne z, swp_ne z] at q
        exact .inl q
      · exact .inr (swp2_none.mp q)
  · obtain ⟨x, hx, ok⟩ := c2.sl i s hs
    refine ⟨x, hx, ?_⟩
    cases s with
    | no => exact ok
    | sh d' => exact ok
    | ow d' => obtain ⟨p, h0, h1, h2, h3⟩ := ok; exact ⟨p, h0, h1, h2, swp2_none.mp h3⟩
    | io d' => exact ok
    | op t d' =>
      obtain ⟨p, h1, h2, h3, h4⟩ := ok
      exact ⟨p, h1, h2, fun b hb => (h3 b hb).imp (fun q => swp2_none.mp q) id, h4⟩
end
section
variable {G : Gb} {W : WX} {g : TG} {wg : WG} {tb : TS} {wb : WS}
theorem Out.unswp {C : Cf} {Hi H : Hp} {σ : St} {Γ : Ev} {a : Addr} {u u' : HO} {kvs : List (Key × V)} {v : V} {r : R} (o : Out G (swpC C a u') Hi σ H Γ v r) (ha : Hi a = some u') (d : Dual kvs u' u) (f1 : ∀ o, C.H0 a = some o → ¬ C.io a → o = u) (f2 : ∀ o, C.I0 a = some o → o = u) (f3 : C.I0 a = some u ∨ C.H0 a = none) :
    Out G C (VL.swp Hi a u) σ (VL.swp H a u) Γ v r := by
  cases r with
  | sh d' => obtain ⟨⟨fp, c⟩, rp⟩ := o; exact ⟨⟨fp, c.unswp ha d f1 f2 f3⟩, Rep.swp ha d rp⟩
  | ow d' => obtain ⟨hl, fp, c⟩ := o; exact ⟨hl, fp, c.unswp ha d f1 f2 f3⟩
  | vr i => obtain ⟨⟨fp, c⟩, h⟩ := o; exact ⟨⟨fp, c.unswp ha d f1 f2 f3⟩, h⟩
  | op t d' => obtain ⟨hl, fp, c⟩ := o; exact ⟨hl, fp, c.unswp ha d f1 f2 f3⟩
end
section
variable {X : Cx} {G : Gb} {W : WX} {tg : Expr} {b1 : List Stmt} {g : TG} {wg : WG} {ts : TS} {ws : WS} {p pos : Pos}
end
end VL

set_option Elab.async false
set_option linter.all false
set_option maxRecDepth 100000
namespace VL
open PySem L2

section
variable {G : Gb} {W : WX} {g : TG} {wg : WG} {tt : TT} {wt : WT} {te : TE} {we : WE} {vs : List Nat}
end
section
variable {X : Cx} {G : Gb} {W : WX} {tg e : Expr} {ifs : List Expr} {scope : Scope} {own : List (Str × Nat)} {pos p : Pos} {g : TG} {wg : WG} {tt : TT} {wt : WT} {te : TE} {we : WE}
end
end VL

set_option Elab.async false
set_option linter.all false
set_option maxRecDepth 100000
namespace VL
open PySem L2

def shS : Sl → Sl
  | .sh d => .sh d
  | .ow d => .sh d
  | .io d => .sh d
  | _ => .no
def shE (Γ : Ev) : Ev := Γ.map shS
section
variable {G : Gb} {W : WX} {g : TG} {wg : WG} {tt : TT} {wt : WT} {te : TE} {we : WE} {vs : List Nat} {C : Cf} {Hi H : Hp} {σ : St} {Γ : Ev}
end
section
variable {X : Cx} {G : Gb} {W : WX} {tg e : Expr} {ifs : List Expr} {scope : Scope} {own : List (Str × Nat)} {pos p : Pos} {g : TG} {wg : WG} {tt : TT} {wt : WT} {te : TE} {we : WE}
end
end VL

set_option Elab.async false
set_option linter.all false
set_option maxRecDepth 100000
namespace VL
open PySem L2
def flatS : R → Prop
  | .sh d => flatD d = true
  | _ => False
def wFz (w : WE) : WE := fun Γ Q _ => w (shE Γ) (fun r _ => flatS r ∧ Q r Γ) fun _ _ => False
section
variable {G : Gb} {W : WX} {te : TE} {we : WE} {C : Cf} {Hi H H' HL : Hp} {σ : St} {Γ : Ev}
theorem Rel.frozen (c : Rel G C Hi σ H Γ) : Rel G ⟨H, H, fun _ => False, fun _ h => h.elim, fun _ => none⟩ H σ H (shE Γ) := by
  obtain ⟨fp, c1⟩ := id c
  refine ⟨fun _ => [], { frame := fun b o h _ => h, live := fun b h => h, imm := Ext.refl _, base := Ext.refl _, ov := fun b o h => .inl h, len := by rw [shE, List.length_map]; exact c.len, sl := fun j s hs => ?_, dj := fun j k b _ _ h => (nomatch h), av := fun j b _ h => (nomatch h) }⟩
  unfold shE at hs
  rw [List.getElem?_map] at hs
  cases e : Γ[j]? with
  | none => rw [e] at hs; cases hs
  | some s' =>
    rw [e] at hs
    cases hs
    have ownR : ∀ (p : Addr) (d : D), Own G.K Hi H p d → Rep G.K H (.ref p) d := fun p d ow => by
      cases ow with
      | lst h r => exact .lst h (r.mono c.imm)
      | dct h r => exact .dct (.inl h) (r.mono c.imm)
    obtain ⟨x, hx1, hok⟩ := c1.sl j _ e
    cases s' with
    | no => exact ⟨x, hx1, rfl⟩
    | sh d => obtain ⟨_, v, h1, h2⟩ := hok; exact ⟨x, hx1, rfl, v, h1, h2.mono c.imm⟩
    | ow d => obtain ⟨p, h0, h1, h2, _⟩ := hok; exact ⟨x, hx1, rfl, _, h1, ownR p d h2⟩
    | io d => obtain ⟨p, h0, h1, h2, _⟩ := hok; exact ⟨x, hx1, rfl, _, h1, ownR p d h2⟩
    | op t d => exact ⟨x, hx1, rfl⟩
theorem sim_fz (h : SimE G W te we) : SimE G W te (wFz we) := by
  intro C Hi σ H Γ Q Qd Xd c hw hQ hX
  refine h _ H σ H (shE Γ) Q _ _ c.frozen hw (fun v r H' Hi' Γ' e o q => ?_) fun x cl d H' Hi' Γ' e c' hx q => q.elim
  obtain ⟨f, q⟩ := q
  cases r with
  | sh d =>
    obtain ⟨c', rv⟩ := o
    obtain ⟨fp', c'⟩ := c'
    have k : Ext H H' := fun b o h => c'.frame b o h fun z => z
    exact hQ v (.sh d) H' Hi Γ (Ext.refl _) ⟨c.grow k (Ext.refl _) (c.imm.trans k) fun _ _ z => .inl z, rv.flat_any f⟩ q
  | ow d => exact f.elim
  | vr i => exact f.elim
  | op t d => exact f.elim
theorem de_fz {X : Cx} {e : Expr} (h : DE X G W e te we) : DE X G W e te (wFz we) := ⟨h.pe, sim_fz h.sim⟩
end
@[simp ↓] theorem ev_wFz (w : WE) (Γ : Ev) (Q : R → Ev → Prop) (X : XW) : wFz w Γ Q X = w (shE Γ) (fun r _ => flatS r ∧ Q r Γ) fun _ _ => False := rfl
@[simp] theorem flatS_bool (b : Bool) : flatS (.sh (.bool b)) = True := eq_true rfl
@[simp] theorem flatS_int (b : Int) : flatS (.sh (.int b)) = True := eq_true rfl
@[simp] theorem flatS_str (b : Str) : flatS (.sh (.str b)) = True := eq_true rfl
@[simp] theorem flatS_none : flatS (.sh .none) = True := eq_true rfl
@[simp ↓] theorem shE_nil : shE [] = [] := rfl
@[simp ↓] theorem shE_cons (s : Sl) (Γ : Ev) : shE (s :: Γ) = shS s :: shE Γ := rfl
@[simp ↓] theorem shS_sh (d : D) : shS (.sh d) = .sh d := rfl
@[simp ↓] theorem shS_ow (d : D) : shS (.ow d) = .sh d := rfl
@[simp ↓] theorem shS_io (d : D) : shS (.io d) = .sh d := rfl
@[simp ↓] theorem shS_no : shS .no = .no := rfl
@[simp ↓] theorem shS_op (t : Nat) (d : D) : shS (.op t d) = .no := rfl
end VL

set_option Elab.async false
set_option linter.all false
set_option maxRecDepth 100000
set_option pp.maxSteps 600
set_option maxHeartbeats 400000
namespace K19
open PySem L2 VL SC K21
inductive Nrm (U : Str → Bool) : List SC.It → Prop
  | nil : Nrm U []
  | bar {is : List SC.It} {x : Str} : Nrm U is → Nrm U (is ++ [.bar x])
  | mbar {is : List SC.It} {x : Str} : Nrm U is → U x = true → Nrm U (is ++ [.mark x] ++ [.bar x])
  | rep {is : List SC.It} {x : Str} {c : Int} : Nrm U is → x ∈ mk [] is → (∀ c', is.getLast? ≠ some (.rep x c')) → Nrm U (is ++ [.rep x c])
theorem Nrm.inv {U : Str → Bool} {js : List SC.It} {x : Str} {c : Int} (h : Nrm U (js ++ [.rep x c])) : Nrm U js ∧ x ∈ mk [] js ∧ ∀ c', js.getLast? ≠ some (.rep x c') := by
  generalize e : js ++ [SC.It.rep x c] = l at h
  cases h with
  | nil => exact absurd e (by simp)
  | bar h => have := (List.append_inj' e rfl).2; cases this
  | mbar h hu => have := (List.append_inj' e rfl).2; cases this
  | rep h h1 h2 =>
    obtain ⟨e1, e2⟩ := List.append_inj' e rfl
    cases e2
    subst e1
    exact ⟨h, h1, h2⟩
theorem apr_or (is : List SC.It) (x : Str) (c : Int) : (∃ js c', is = js ++ [.rep x c'] ∧ apr is x c = js ++ [.rep x ((c' + 1) * (c + 1) - 1)]) ∨ ((∀ c', is.getLast? ≠ some (.rep x c')) ∧ apr is x c = is ++ [.rep x c]) := by
  refine snoc_ind (P := fun is => (∃ js c', is = js ++ [.rep x c'] ∧ apr is x c = js ++ [.rep x ((c' + 1) * (c + 1) - 1)]) ∨ ((∀ c', is.getLast? ≠ some (.rep x c')) ∧ apr is x c = is ++ [.rep x c])) (.inr ⟨fun c' h => by simp at h, rfl⟩) (fun js a _ => ?_) is
  by_cases ha : ∃ c', a = .rep x c'
  · obtain ⟨c', rfl⟩ := ha
    exact .inl ⟨js, c', rfl, apr_same js x c' c⟩
  · exact .inr ⟨fun c' h => ha ⟨c', by simpa using h⟩, apr_other x c fun c' e => ha ⟨c', e⟩⟩
theorem Nrm.apr {U : Str → Bool} {is : List SC.It} {x : Str} {c : Int} (h : Nrm U is) (hx : x ∈ mk [] is) : Nrm U (apr is x c) := by
  rcases apr_or is x c with ⟨js, c', rfl, e⟩ | ⟨h1, e⟩
  · rw [e]
    obtain ⟨a, b, d⟩ := h.inv
    exact .rep a b d
  · rw [e]
    exact .rep h hx h1
theorem mk_snoc (l : List SC.It) (a : SC.It) : mk [] (l ++ [a]) = mk (mk [] l) [a] := mk_app _ _ _
theorem Nrm.nf {U : Str → Bool} {is : List SC.It} (h : Nrm U is) : (nfA U is).1 = is ∧ (ns is).p = [] ∧ (∀ x ∈ mk [] is, (ns is).f x = some x) ∧ adj is = false ∧ lastMark is = false := by
  induction h with
  | nil => exact ⟨rfl, rfl, (fun x h => nomatch h), rfl, rfl⟩
  | @bar is x h ih =>
    obtain ⟨i1, i2, i3, i4, i5⟩ := ih
    have hz := nfA_ns U is
    refine ⟨?_, by rw [ns_snoc]; rfl, fun y hy => ?_, ?_, ?_⟩
    · rw [nfA_snoc]
      show (nfA U is).1 ++ (if (nfA U is).2.p.any U then [It.mark x] else []) ++ [It.bar x] = _
      rw [hz, i1, i2]
      simp
    · rw [mk_snoc] at hy
      rw [ns_snoc]
      show (if y ∈ (ns is).p then some x else (ns is).f y) = some y
      rw [i2]
      simpa using i3 y hy
    · rw [adj_app2, i4, i5]; rfl
    · simp [lastMark, itMark]
  | @mbar is x h hu ih =>
    obtain ⟨i1, i2, i3, i4, i5⟩ := ih
    have hz := nfA_ns U is
    have hz2 := nfA_ns U (is ++ [.mark x])
    have e1 : (nfA U (is ++ [.mark x])).1 = is := by rw [nfA_snoc]; exact i1
    have e2 : (ns (is ++ [.mark x])).p = [x] := by rw [ns_snoc]; show (ns is).p ++ [x] = _; rw [i2]; rfl
    refine ⟨?_, by rw [ns_snoc]; rfl, fun y hy => ?_, ?_, ?_⟩
    · rw [nfA_snoc]
      show (nfA U (is ++ [.mark x])).1 ++ (if (nfA U (is ++ [.mark x])).2.p.any U then [It.mark x] else []) ++ [It.bar x] = _
      rw [hz2, e1, e2]
      simp [hu]
    · rw [mk_snoc, mk_snoc] at hy
      rw [ns_snoc]
      show (if y ∈ (ns (is ++ [.mark x])).p then some x else (ns (is ++ [.mark x])).f y) = some y
      rw [e2]
      by_cases hyx : y = x
      · simp [hyx]
      · have hf : (ns (is ++ [.mark x])).f y = (ns is).f y := by rw [ns_snoc]; rfl
        have hy : y ∈ x :: mk [] is := hy
        rw [hf]
        simp [hyx]
        exact i3 y ((List.mem_cons.mp hy).resolve_left hyx)
    · rw [adj_app2, adj_app2, i4, i5]; simp [adj, adjL, headRep, itRep]
    · simp [lastMark, itMark]
  | @rep is x c h hx hl ih =>
    obtain ⟨i1, i2, i3, i4, i5⟩ := ih
    have hz := nfA_ns U is
    refine ⟨?_, by rw [ns_snoc]; exact i2, fun y hy => ?_, ?_, ?_⟩
    · rw [nfA_snoc]
      show SC.apr (nfA U is).1 (((nfA U is).2.f x).getD "") c = _
      rw [hz, i1, i3 x hx]
      rcases apr_or is x c with ⟨js, c', rfl, e⟩ | ⟨h1, e⟩
      · exact absurd (by simp) (hl c')
      · exact e
    · rw [mk_snoc] at hy
      rw [ns_snoc]
      exact i3 y hy
    · rw [adj_app2, i4, i5]; rfl
    · simp [lastMark, itMark]
theorem st_snoc (l : List SC.It) (a : SC.It) : st p0 (l ++ [a]) = stp (st p0 l) a := by unfold st; rw [List.foldl_append]; rfl
theorem st_apr (is : List SC.It) (x : Str) (c : Int) : st p0 (apr is x c) = ((st p0 is).1, (st p0 is).2 + c * ((st p0 is).2 - (st p0 is).1 x)) := by
  rcases apr_or is x c with ⟨js, c', rfl, e⟩ | ⟨h1, e⟩
  · rw [e, st_snoc, st_snoc]
    show ((st p0 js).1, (st p0 js).2 + ((c' + 1) * (c + 1) - 1) * ((st p0 js).2 - (st p0 js).1 x)) = ((st p0 js).1, (st p0 js).2 + c' * ((st p0 js).2 - (st p0 js).1 x) + c * ((st p0 js).2 + c' * ((st p0 js).2 - (st p0 js).1 x) - (st p0 js).1 x))
    congr 1
    generalize (st p0 js).2 = t
    generalize (st p0 js).1 x = s
    grind
  · rw [e, st_snoc]; rfl
def BT (l : List SC.It) : List Int := ((List.range l.length).filter (pB l)).map fun k => (st p0 (l.take k)).2
theorem BT_snoc (l : List SC.It) (a : SC.It) : BT (l ++ [a]) = BT l ++ (if (!itRep a && !itMark a) = true then [(st p0 l).2] else []) := by
  unfold BT
  rw [List.length_append, List.length_singleton, List.range_succ, List.filter_append, List.map_append]
  have e1 : (List.range l.length).filter (pB (l ++ [a])) = (List.range l.length).filter (pB l) := List.filter_congr fun k hk => by
    unfold pB
    rw [List.getElem?_append_left (List.mem_range.mp hk)]
  rw [e1]
  congr 1
  · refine List.map_congr_left fun k hk => ?_
    have := List.mem_range.mp (List.mem_filter.mp hk).1
    rw [List.take_append_of_le_length (by omega)]
  · have e2 : pB (l ++ [a]) l.length = (!itRep a && !itMark a) := by unfold pB; simp
    by_cases h : (!itRep a && !itMark a) = true
    · rw [if_pos h]
      rw [h] at e2
      simp [e2]
    · rw [if_neg h]
      have e3 : pB (l ++ [a]) l.length = false := by rw [e2]; simpa using h
      simp [e3]
theorem BT_apr (is : List SC.It) (x : Str) (c : Int) : BT (apr is x c) = BT is := by
  rcases apr_or is x c with ⟨js, c', rfl, e⟩ | ⟨h1, e⟩
  · rw [e, BT_snoc, BT_snoc]; rfl
  · rw [e, BT_snoc]; simp [itRep]
theorem bN_apr (is : List SC.It) (x : Str) (c : Int) : bN (apr is x c) = bN is := by
  rcases apr_or is x c with ⟨js, c', rfl, e⟩ | ⟨h1, e⟩
  · rw [e, bN_app, bN_app]; rfl
  · rw [e, bN_app]; simp [bN]
theorem apr_okw {is : List SC.It} {x : Str} {c : Int} (ho : okw [] is) (hx : nameB x = true) (hm : x ∈ mk [] is) (hc : 1 ≤ c) : okw [] (apr is x c) ∧ ∀ y, y ∈ mk [] (apr is x c) ↔ y ∈ mk [] is := by
  rcases apr_or is x c with ⟨js, c', rfl, e⟩ | ⟨h1, e⟩
  · rw [e]
    obtain ⟨o1, o2, o3, o4, _⟩ := (okw_app _ _ _).mp ho
    have h5 := mul_ge (a := c' + 1) (b := c + 1) (by omega) (by omega)
    refine ⟨(okw_app _ _ _).mpr ⟨o1, hx, o3, by omega, trivial⟩, fun y => ?_⟩
    rw [mk_app, mk_app]; rfl
  · rw [e]
    exact ⟨(okw_app _ _ _).mpr ⟨ho, hx, hm, hc, trivial⟩, fun y => by rw [mk_app]; rfl⟩
theorem rep_apr {is : List SC.It} {y x : Str} {d : Int} (h : (∃ c, It.rep x c ∈ is) ∨ y = x) : ∃ c, It.rep x c ∈ apr is y d := by
  rcases apr_or is y d with ⟨js, c', rfl, e⟩ | ⟨h1, e⟩ <;> rw [e]
  · rcases h with ⟨c, h⟩ | rfl
    · rcases List.mem_append.mp h with h | h
      · exact ⟨c, List.mem_append_left _ h⟩
      · cases List.mem_singleton.mp h
        exact ⟨_, List.mem_append_right _ (List.mem_singleton.mpr rfl)⟩
    · exact ⟨_, List.mem_append_right _ (List.mem_singleton.mpr rfl)⟩
  · rcases h with ⟨c, h⟩ | rfl
    · exact ⟨c, List.mem_append_left _ h⟩
    · exact ⟨_, List.mem_append_right _ (List.mem_singleton.mpr rfl)⟩
theorem rep_stays {U : Str → Bool} {x : Str} {l : List SC.It} (h : ∃ c, It.rep x c ∈ (nfA U l).1) : ∀ b : List SC.It, ∃ c, It.rep x c ∈ (nfA U (l ++ b)).1 := by
  intro b
  refine snoc_ind (P := fun b => ∃ c, It.rep x c ∈ (nfA U (l ++ b)).1) (by rw [List.append_nil]; exact h) (fun b a ih => ?_) b
  rw [← List.append_assoc, nfA_snoc]
  cases a with
  | mark n => exact ih
  | bar n =>
    obtain ⟨c, hc⟩ := ih
    exact ⟨c, List.mem_append_left _ (List.mem_append_left _ hc)⟩
  | rep n c => exact rep_apr (.inl ih)
theorem used_nf {L : List SC.It} {m x : Str} (ho : ok [] L) (hs : smB L = true) (hu : ud L m = true) (hf : (ns L).f m = some x) : ud (nf L) x = true := by
  obtain ⟨it, hi, hr⟩ := List.any_eq_true.mp hu
  cases it with
  | bar n => cases hr
  | mark n => cases hr
  | rep n c =>
    have hn : n = m := by simpa [isRp] using hr
    subst hn
    obtain ⟨a, b, e⟩ := List.append_of_mem hi
    obtain ⟨y, hy⟩ := Option.isSome_iff_exists.mp (rdy_of ho (smB_adj hs) a n c b e)
    have h2 := ns_mono hy (.rep n c :: b) (by rw [← e]; exact ho)
    rw [← e, hf] at h2
    cases h2
    have h3 : ∃ d, It.rep x d ∈ (nfA (ud L) (a ++ [.rep n c])).1 := by
      rw [nfA_snoc]
      show ∃ d, It.rep x d ∈ apr (nfA (ud L) a).1 (((nfA (ud L) a).2.f n).getD "") c
      rw [nfA_ns, hy]
      exact rep_apr (.inr rfl)
    have h4 := rep_stays h3 b
    have e2 : a ++ [It.rep n c] ++ b = L := by rw [e]; simp
    rw [e2] at h4
    obtain ⟨d, hd⟩ := h4
    exact List.any_eq_true.mpr ⟨_, hd, by simp [isRp]⟩
structure NF (L l is : List SC.It) : Prop where
  ok : okw [] is
  mb : ∀ x ∈ mk [] is, x ∈ bN l
  mq : ∀ m x, (ns l).f m = some x → ud L m = true → x ∈ mk [] is
  bn : bN is = bN l
  nr : Nrm (ud (nf L)) is
  t1 : (st p0 is).2 = (st p0 l).2
  t2 : ∀ m x, (ns l).f m = some x → ud L m = true → (st p0 is).1 x = (st p0 l).1 m
  t3 : ∀ m ∈ (ns l).p, (st p0 l).1 m = (st p0 l).2
  t4 : BT is = BT l
theorem nf_all {L : List SC.It} (ho : ok [] L) (hs : smB L = true) : NF L L (nf L) := by
  have hnd := smB_nodup hs
  have hadj := smB_adj hs
  have hrdy := rdy_of ho hadj
  have hNm := ok_Nmd ho
  have hCs := ok_Cs ho
  suffices g : ∀ l r, L = l ++ r → NF L l (nfA (ud L) l).1 from g L [] (by simp)
  intro l
  refine snoc_ind (P := fun l => ∀ r, L = l ++ r → NF L l (nfA (ud L) l).1) (fun r _ => ⟨trivial, (fun x h => nomatch h), (fun m x h => nomatch h), rfl, .nil, rfl, (fun m x h => nomatch h), (fun m h => nomatch h), rfl⟩) (fun l a ih r e => ?_) l
  have I := ih (a :: r) (by rw [e]; simp)
  have hz := nfA_ns (ud L) l
  have hol : ok [] l := by rw [e, List.append_assoc] at ho; exact ((ok_app _ _ _).mp ho).1
  have hola : ok [] (l ++ [a]) := by rw [e] at ho; exact ((ok_app _ _ _).mp ho).1
  have J := ns_J l hol
  have hNa : nameB (iNm a) = true := hNm a (by rw [e]; simp)
  have nsn := ns_snoc l a
  have stn := st_snoc l a
  have btn := BT_snoc l a
  rw [nfA_snoc]
  unfold nfS
  rw [hz]
  generalize hIs : (nfA (ud L) l).1 = is at *
  cases a with
  | mark n =>
    have hn : n ∉ mk [] l := ((ok_app _ _ _).mp hola).2.2.1
    refine ⟨I.ok, fun x hx => by rw [bN_app]; exact List.mem_append_left _ (I.mb x hx), fun m x h => ?_, by rw [bN_app]; simpa [bN] using I.bn, I.nr, ?_, fun m x h hU => ?_, fun m h => ?_, ?_⟩
    · rw [nsn] at h; exact I.mq m x h
    · rw [stn]; exact I.t1
    · rw [nsn] at h
      have hm := (J.2 m x h).1
      rw [stn]
      show _ = (if m = n then (st p0 l).2 else (st p0 l).1 m)
      rw [if_neg fun (z : m = n) => hn (by rw [← z]; exact hm)]
      exact I.t2 m x h hU
    · rw [nsn] at h
      have h : m ∈ (ns l).p ++ [n] := h
      rw [stn]
      show (if m = n then (st p0 l).2 else (st p0 l).1 m) = (st p0 l).2
      split
      · rfl
      · rename_i hmn
        rcases List.mem_append.mp h with h | h
        · exact I.t3 m h
        · exact absurd (List.mem_singleton.mp h) hmn
    · rw [btn]; simpa [itRep, itMark] using I.t4
  | bar x =>
    have hx : nameB x = true := hNa
    have hnew : x ∉ bN l := fun h => by
      rw [e, bN_app, bN_app] at hnd
      have := (List.nodup_append.mp ((List.nodup_append.mp hnd).1)).2.2 x h x (by simp [bN])
      exact this rfl
    have hno : x ∉ mk [] is := fun h => hnew (I.mb x h)
    have hbl : x ∈ bN (l ++ [It.bar x]) := by rw [bN_app]; simp [bN]
    have hb2 : ∀ y ∈ bN l, y ∈ bN (l ++ [It.bar x]) := fun y hy => by rw [bN_app]; exact List.mem_append_left _ hy
    have hfx : ∀ m y, (ns (l ++ [.bar x])).f m = some y → (m ∈ (ns l).p ∧ y = x) ∨ (m ∉ (ns l).p ∧ (ns l).f m = some y) := fun m y h => by
      rw [nsn] at h
      have h : (if m ∈ (ns l).p then some x else (ns l).f m) = some y := h
      split at h
      · rename_i hm; cases h; exact .inl ⟨hm, rfl⟩
      · rename_i hm; exact .inr ⟨hm, h⟩
    have tp : ∀ m, m ∈ (ns (l ++ [.bar x])).p → (st p0 (l ++ [.bar x])).1 m = (st p0 (l ++ [.bar x])).2 := fun m h => by rw [nsn] at h; exact nomatch h
    have btn2 : BT (l ++ [.bar x]) = BT l ++ [(st p0 l).2] := by rw [btn]; rfl
    show NF L (l ++ [.bar x]) (is ++ (if (ns l).p.any (ud L) then [It.mark x] else []) ++ [It.bar x])
    by_cases hu : (ns l).p.any (ud L) = true
    · rw [if_pos hu]
      have em : SC.mk [] (is ++ [It.mark x] ++ [It.bar x]) = x :: SC.mk [] is := by rw [mk_app, mk_app]; rfl
      have es : st p0 (is ++ [It.mark x] ++ [It.bar x]) = stp (stp (st p0 is) (.mark x)) (.bar x) := by rw [st_snoc, st_snoc]
      have hU' : ud (nf L) x = true := by
        obtain ⟨m, hm, hum⟩ := List.any_eq_true.mp hu
        have h1 : (ns (l ++ [It.bar x])).f m = some x := by
          rw [nsn]
          show (if m ∈ (ns l).p then some x else (ns l).f m) = some x
          rw [if_pos hm]
        have h2 := ns_mono h1 r (by rw [← e]; exact ho)
        rw [← e] at h2
        exact used_nf ho hs hum h2
      refine ⟨(okw_app _ _ _).mpr ⟨(okw_app _ _ _).mpr ⟨I.ok, hx, hno, trivial⟩, hx, trivial⟩, fun y hy => ?_, fun m y h hU => ?_, ?_, .mbar I.nr hU', ?_, fun m y h hU => ?_, tp, ?_⟩
      · rw [em] at hy
        rcases List.mem_cons.mp hy with rfl | hy
        · exact hbl
        · exact hb2 _ (I.mb y hy)
      · rw [em]
        rcases hfx m y h with ⟨_, rfl⟩ | ⟨_, h⟩
        · exact List.mem_cons_self
        · exact List.mem_cons_of_mem _ (I.mq m y h hU)
      · rw [bN_app, bN_app, bN_app, I.bn]; simp [bN]
      · rw [es, stn]
        show (st p0 is).2 + 1 = (st p0 l).2 + 1
        rw [I.t1]
      · rw [es, stn]
        show (if y = x then (st p0 is).2 else (st p0 is).1 y) = (st p0 l).1 m
        rcases hfx m y h with ⟨hm, rfl⟩ | ⟨hm, h⟩
        · rw [if_pos rfl, I.t1]
          exact (I.t3 m hm).symm
        · have hy := (J.2 m y h).2.2
          rw [if_neg fun (z : y = x) => hnew (by rw [← z]; exact hy)]
          exact I.t2 m y h hU
      · rw [BT_snoc, BT_snoc, btn2, I.t4, st_snoc]
        have : (stp (st p0 is) (.mark x)).2 = (st p0 l).2 := I.t1
        simp [itRep, itMark, this]
    · rw [if_neg hu, List.append_nil]
      have em : SC.mk [] (is ++ [It.bar x]) = SC.mk [] is := by rw [mk_app]; rfl
      refine ⟨(okw_app _ _ _).mpr ⟨I.ok, hx, trivial⟩, fun y hy => by rw [em] at hy; exact hb2 _ (I.mb y hy), fun m y h hU => ?_, ?_, .bar I.nr, ?_, fun m y h hU => ?_, tp, ?_⟩
      · rw [em]
        rcases hfx m y h with ⟨hm, rfl⟩ | ⟨_, h⟩
        · exact absurd (List.any_eq_true.mpr ⟨m, hm, hU⟩) hu
        · exact I.mq m y h hU
      · rw [bN_app, bN_app, I.bn]
      · rw [st_snoc, stn]
        show (st p0 is).2 + 1 = (st p0 l).2 + 1
        rw [I.t1]
      · rw [st_snoc, stn]
        show (st p0 is).1 y = (st p0 l).1 m
        rcases hfx m y h with ⟨hm, rfl⟩ | ⟨hm, h⟩
        · exact absurd (List.any_eq_true.mpr ⟨m, hm, hU⟩) hu
        · exact I.t2 m y h hU
      · rw [BT_snoc, btn2, I.t4, I.t1]
        simp [itRep, itMark]
  | rep n c =>
    have hr := hrdy l n c r (by rw [e]; simp)
    obtain ⟨x, hx⟩ := Option.isSome_iff_exists.mp hr
    have hU : ud L n = true := List.any_eq_true.mpr ⟨.rep n c, by rw [e]; simp, by simp [isRp]⟩
    have hc := hCs n c (by rw [e]; simp)
    have hxm := I.mq n x hx hU
    have hxn : nameB x = true := nsF_name (l := l) (fun b hb => hNm b (by rw [e]; simp [hb])) n x hx
    have hp0 : (ns l).p = [] := nsP_nil l n c r (by rw [e] at hadj; simpa using hadj)
    show NF L (l ++ [.rep n c]) (apr is (((ns l).f n).getD "") c)
    rw [hx]
    obtain ⟨a1, a2⟩ := apr_okw I.ok hxn hxm hc
    refine ⟨a1, fun y hy => by rw [bN_app]; exact List.mem_append_left _ (I.mb y ((a2 y).mp hy)), fun m y h hU => ?_, ?_, I.nr.apr hxm, ?_, fun m y h hU2 => ?_, fun m h => ?_, ?_⟩
    · rw [nsn] at h
      exact (a2 y).mpr (I.mq m y h hU)
    · rw [show Option.getD (some x) "" = x from rfl, bN_apr, bN_app, I.bn]; simp [bN]
    · rw [show Option.getD (some x) "" = x from rfl, st_apr, stn]
      show (st p0 is).2 + c * ((st p0 is).2 - (st p0 is).1 x) = (st p0 l).2 + c * ((st p0 l).2 - (st p0 l).1 n)
      rw [I.t1, I.t2 n x hx hU]
    · rw [nsn] at h
      rw [show Option.getD (some x) "" = x from rfl, st_apr, stn]
      exact I.t2 m y h hU2
    · rw [nsn] at h
      have h : m ∈ (ns l).p := h
      rw [hp0] at h
      cases h
    · rw [show Option.getD (some x) "" = x from rfl, BT_apr, btn, I.t4]
      simp [itRep]
theorem nf_nf {L : List SC.It} (ho : ok [] L) (hs : smB L = true) : nf (nf L) = nf L := (nf_all ho hs).nr.nf.1
theorem sm_nf {L : List SC.It} (ho : ok [] L) (hs : smB L = true) : smB (nf L) = true := by
  have I := nf_all ho hs
  refine smB_of ?_ I.nr.nf.2.2.2.1
  rw [I.bn]
  exact smB_nodup hs
theorem pdS_ok {L : List SC.It} (ho : ok [] L) (hl : L.length ≤ 300) : pdS L := by
  obtain ⟨h1, h2⟩ := pd_le (l := L) fun n c hm => by
    obtain ⟨i, hi⟩ := List.mem_iff_getElem?.mp hm
    exact ok_count ho hi
  unfold pdS
  refine Int.lt_of_le_of_lt h2 (Int.ofNat_lt.mpr (Nat.pow_lt_pow_right (by decide) (by omega)))
theorem pdS_nf {L : List SC.It} (ho : ok [] L) (hl : L.length ≤ 300) : pdS (nf L) := by
  have := (nfA_cs (U := ud L) (ok_Cs ho)).2
  unfold pdS nf
  rw [this]
  exact pdS_ok ho hl
def fs_law_normal : FS := K21.fs_law_normal
def w_law_normal : WS := wSeq (wPar [1, 2] (wsCons (wDict0) (wsCons (wLst (wNil)) (wsNil)))) (wSeq (wFor (wiL (wVar 0)) (wgName 3) (wSeq (wSet 2 (wIf (wT (wOp oEq (wOp oIx (wVar 3) (wC (.int 0))) (wC (.str "mark")))) (wOp oAdd (wVar 2) (wLst (wCons (wOp oIx (wVar 3) (wC (.int 1))) (wNil)))) (wVar 2))) (wIfS (wT (wOp oEq (wOp oIx (wVar 3) (wC (.int 0))) (wC (.str "bar")))) (wSeq (wDrop (wDUpdL 1 (wLc [6] (wiL (wVar 2)) (wgName 6) (wYes) (wTup (wCons (wVar 6) (wCons (wOp oIx (wVar 3) (wC (.int 1))) (wNil))))))) (wSet 2 (wLst (wNil)))) (wNext)))) (wSeq (wSet 4 (wLc [3] (wiL (wVar 0)) (wgName 3) (wT (wOp oEq (wOp oIx (wVar 3) (wC (.int 0))) (wC (.str "repeat")))) (wOp oIx (wVar 1) (wOp oIx (wVar 3) (wC (.int 1)))))) (wSeq (wSet 5 (wLst (wNil))) (wSeq (wFor (wiL (wVar 0)) (wgName 3) (wIfS (wT (wOp oEq (wOp oIx (wVar 3) (wC (.int 0))) (wC (.str "bar")))) (wSet 5 (wOp oAdd (wOp oAdd (wVar 5) (wOp oMul (wLst (wCons (wTup (wCons (wC (.str "mark")) (wCons (wOp oIx (wVar 3) (wC (.int 1))) (wNil)))) (wNil))) (wCB (o1 oInt) (wCons (wOp (oIn false) (wOp oIx (wVar 3) (wC (.int 1))) (wVar 4)) (wNil))))) (wLst (wCons (wVar 3) (wNil))))) (wIfS (wAnd (wT (wOp oEq (wOp oIx (wVar 3) (wC (.int 0))) (wC (.str "repeat")))) (wT (wOp oEq (wSlT (wOp oIx (wVar 5) (wUn (fun a k => isI a fun i => k (.sh (.int (-i)))) (wC (.int 1)))) (wNoP) (wPart (wC (.int 2)))) (wTup (wCons (wC (.str "repeat")) (wCons (wOp oIx (wVar 1) (wOp oIx (wVar 3) (wC (.int 1)))) (wNil))))))) (wLPut 5 (wUn (fun a k => isI a fun i => k (.sh (.int (-i)))) (wC (.int 1))) (wTup (wCons (wC (.str "repeat")) (wCons (wOp oIx (wVar 1) (wOp oIx (wVar 3) (wC (.int 1)))) (wCons (wOp (oII (fun _ _ => True) (· - ·)) (wOp oMul (wOp oAdd (wOp oIx (wOp oIx (wVar 5) (wUn (fun a k => isI a fun i => k (.sh (.int (-i)))) (wC (.int 1)))) (wC (.int 2))) (wC (.int 1))) (wOp oAdd (wOp oIx (wVar 3) (wC (.int 2))) (wC (.int 1)))) (wC (.int 1))) (wNil)))))) (wIfS (wT (wOp oEq (wOp oIx (wVar 3) (wC (.int 0))) (wC (.str "repeat")))) (wDrop (wMut 5 fAppend (wCons (wTup (wCons (wC (.str "repeat")) (wCons (wOp oIx (wVar 1) (wOp oIx (wVar 3) (wC (.int 1)))) (wCons (wOp oIx (wVar 3) (wC (.int 2))) (wNil))))) wNil))) (wNext))))) (wRet (wVar 5))))))
theorem fv_law_normal : FnV fs_law_normal 7 w_law_normal := K21.fv_law_normal
abbrev fs_law_same : FS := fsRec_law_same 3
theorem same_sc {l : List SC.It} (h : Nmd l) (hl : l.length ≤ 1000) : SameT 3 (.list (sc l)) := by
  refine .inr ⟨_, .inl rfl, by rw [sc_length]; omega, fun x hx => ?_⟩
  obtain ⟨it, hi, rfl⟩ := List.mem_map.mp hx
  have hn := name_strOk (h it hi)
  refine .inr ?_
  cases it with
  | bar n =>
    refine ⟨_, .inr rfl, by simp, fun y hy => .inl ?_⟩
    simp only [List.mem_cons, List.not_mem_nil, or_false] at hy
    rcases hy with rfl | rfl
    · exact b1s
    · exact hn
  | mark n =>
    refine ⟨_, .inr rfl, by simp, fun y hy => .inl ?_⟩
    simp only [List.mem_cons, List.not_mem_nil, or_false] at hy
    rcases hy with rfl | rfl
    · exact b2s
    · exact hn
  | rep n c =>
    refine ⟨_, .inr rfl, by simp, fun y hy => .inl ?_⟩
    simp only [List.mem_cons, List.not_mem_nil, or_false] at hy
    rcases hy with rfl | rfl | rfl
    · exact b3s
    · exact hn
    · exact trivial
def wL7 : WS := wSeq (wDrop (wMut 6 fAppend (wCons (wC .none) wNil))) (wIfS (wOr (wNot (wT (wFz (wCall fs_law_same [] (wCons (wCallKw fs_normal_formW [0] 1 (wCons (wVar 3) (wNil))) (wCons (wVar 5) (wNil))))))) (wT (wOp oNeS (wCB (o1 oRepr) (wCons (wVar 3) (wNil))) (wVar 4)))) (wRet (wC (.bool false))) (wNext))
def wL6 : WS := wSeq (wIfS (wOr (wT (wOp oNe (wLc [10] (wiR1 (wCons (wCB (o1 oLen) (wCons (wVar 5) (wNil))) (wNil))) (wgName 10) (wT (wOp oEq (wOp oIx (wOp oIx (wVar 5) (wVar 10)) (wC (.int 0))) (wC (.str "bar")))) (wOp oIx (wVar 8) (wVar 10))) (wVar 9))) (wT (wOp oNe (wFz (wCall fs_total_lengthW [] (wCons (wVar 6) (wNil)))) (wOp oIx (wVar 7) (wUn (fun a k => isI a fun i => k (.sh (.int (-i)))) (wC (.int 1))))))) (wRet (wC (.bool false))) (wNext)) wL7
def wL5 : WS := wSeq (wSet 9 (wLc [10] (wiR1 (wCons (wCB (o1 oLen) (wCons (wVar 3) (wNil))) (wNil))) (wgName 10) (wT (wOp oEq (wOp oIx (wOp oIx (wVar 3) (wVar 10)) (wC (.int 0))) (wC (.str "bar")))) (wOp oIx (wVar 7) (wVar 10)))) wL6
def wL4 : WS := wSeq (wPar [7, 8] (wsCons (wCall fs_law_timesW [] (wCons (wVar 3) (wNil))) (wsCons (wCall fs_law_timesW [] (wCons (wVar 5) (wNil))) (wsNil)))) wL5
def wL3 : WS := wSeq (wIfS (wOr (wNot (wT (wFz (wCall fs_law_same [] (wCons (wVar 6) (wCons (wVar 5) (wNil))))))) (wOr (wNot (wT (wFz (wCall fs_is_simpleW [] (wCons (wVar 6) (wNil)))))) (wNot (wT (wFz (wCall fs_law_same [] (wCons (wCall fs_normal_formW [] (wCons (wVar 6) (wNil))) (wCons (wVar 5) (wNil))))))))) (wRet (wC (.bool false))) (wNext)) wL4
section
variable {s0 s1 s2 : Sl} {c : Int} {L : List SC.It} {Dn : VL.WD} {X : XW}
abbrev env (s0 s1 s2 : Sl) (L : List SC.It) (S : D) (a6 a7 a8 a9 a10 : Sl) : List Sl := [s0, s1, s2, .sh (.list (sc L)), .sh S, .sh (.list (sc (nf L))), a6, a7, a8, a9, a10]
abbrev envO (s0 s1 s2 : Sl) (L : List SC.It) (S : D) (a6 a7 a8 a9 a10 : Sl) : List Sl := [s0, s1, s2, .sh (.list (sc L)), .sh S, .ow (.list (sc (nf L))), a6, a7, a8, a9, a10]
theorem ask_nf {Q : VL.R → Option Sl → Prop} {X : Exn → Option Sl → Prop} {M : List SC.It} (h1 : okw [] M) (h2 : pdS M) (h3 : M.length ≤ 1000) (h4 : smB M = true) (q : Q (.ow (.list (sc (nf M)))) none) : fs_normal_formW none [.list (sc M)] Q X := ⟨rfl, M, rfl, h1, h2, h3, h4, q⟩
theorem ask_same {Q : VL.R → Option Sl → Prop} {X : Exn → Option Sl → Prop} {M : List SC.It} (h1 : Nmd M) (h3 : M.length ≤ 1000) (q : Q (.sh (.bool true)) none) : fs_law_same none [.list (sc M), .list (sc M)] Q X := ⟨rfl, _, rfl, same_sc h1 h3, q⟩
theorem st7 {a7 a8 a9 a10 : Sl} (ho : ok [] L) (hs : smB L = true) (hl : L.length ≤ 280) (q : ∀ a6, Dn.nx (env s0 s1 s2 L (.str (PyData.shown (.list (sc L)))) a6 a7 a8 a9 a10)) :
    wL7 (env s0 s1 s2 L (.str (PyData.shown (.list (sc L)))) (.ow (.list (sc (nf L)))) a7 a8 a9 a10) Dn X := by
  have I := nf_all ho hs
  have hn := nf_len L
  obtain ⟨r1, r2, r3⟩ := score_shown ho (by omega)
  have er : reord [0] [PyData.list (sc L)] = [.list (sc L)] := rfl
  simp [wL7, er]
  refine ⟨by rw [sc_length, sizeLine_eq]; omega, ask_nf (ok_okw ho) (pdS_ok ho (by omega)) (by omega) hs ?_⟩
  simp
  refine ask_same (okw_Nmd I.ok) (by omega) ?_
  simp [flatS, flatD, oRepr, r1, r2, r3, oNeS]
  exact q _
theorem st3 {a7 a8 a9 a10 : Sl} (ho : ok [] L) (hs : smB L = true) (hl : L.length ≤ 280) (q : wL4 (envO s0 s1 s2 L (.str (PyData.shown (.list (sc L)))) (.ow (.list (sc (nf L)))) a7 a8 a9 a10) Dn X) :
    wL3 (envO s0 s1 s2 L (.str (PyData.shown (.list (sc L)))) (.ow (.list (sc (nf L)))) a7 a8 a9 a10) Dn X := by
  have I := nf_all ho hs
  have hn := nf_len L
  have o2 := I.ok
  have p2 := pdS_nf ho (by omega : L.length ≤ 300)
  have s2 := sm_nf ho hs
  simp [wL3]
  refine ask_same (okw_Nmd o2) (by omega) ?_
  simp [flatS, flatD]
  refine ⟨rfl, nf L, rfl, o2, by omega, ?_⟩
  simp [flatS, flatD, s2]
  refine ask_nf o2 p2 (by omega) s2 ?_
  rw [nf_nf ho hs]
  simp
  refine ask_same (okw_Nmd o2) (by omega) ?_
  simp [flatS, flatD]
  exact q
def bars (l : List SC.It) : List D := (BT l).map .int
theorem lc_at {M : List SC.It} {ts : Sl} {Γ : VL.Ev} {kk : List D → VL.Ev → Prop} {t : VL.WT} {w : VL.WE} (hl : M.length ≤ 1000)
    (hs : ∀ (i : Nat) (it : SC.It) (acc : List D) (k : List D → VL.Ev → Prop), M[i]? = some it → acc.length < sizeLine → ((!itRep it && !itMark it) = true → k (acc ++ [.int (st p0 (M.take i)).2]) Γ) → ((!itRep it && !itMark it) = false → k acc Γ) → lcT [10] (wgName 10) t w k (.int (i : Int)) acc Γ)
    (q : kk (bars M) Γ) : lcW [10] (wgName 10) t w kk (rangeD 0 (sc M).length) [] Γ := by
  have er : rangeD 0 (sc M).length = (List.range M.length).map fun i : Nat => PyData.int (i : Int) := by
    unfold rangeD
    rw [sc_length]
    simp
  rw [er]
  refine lcm_filt (List.range M.length) (fun i : Nat => .int (i : Int)) (fun i : Nat => .int (st p0 (M.take i)).2) (pB M) (by rw [List.length_range]; omega) (fun i acc k hi hz h1 h2 => ?_) ?_
  · have hi := List.mem_range.mp hi
    have hg := List.getElem?_eq_getElem hi
    unfold pB at h1 h2
    rw [hg] at h1 h2
    exact hs i _ acc k hg hz h1 h2
  · have e : ((List.range M.length).filter (pB M)).map (fun i : Nat => PyData.int (st p0 (M.take i)).2) = bars M := by
      unfold bars BT
      rw [List.map_map]
      rfl
    rw [e]
    exact q
theorem ix_run {M : List SC.It} {i : Nat} (h : i < M.length) (k : VL.R → Prop) (q : k (.sh (.int (st p0 (M.take i)).2))) : oIx (.list ((run p0 M).map .int)) (.int (i : Int)) k := by
  rw [ix_lnE (n := i) (d := .int (st p0 (M.take i)).2) (by rw [List.getElem?_map, run_get M p0 i (by omega)]; rfl)]
  exact q
theorem st4 {a7 a8 a9 a10 : Sl} (ho : ok [] L) (hs : smB L = true) (hl : L.length ≤ 280) (h10 : a10 = .no ∨ ∃ d, a10 = .sh d)
    (q : ∀ a10, (a10 = .no ∨ ∃ d, a10 = .sh d) → wL6 (env s0 s1 s2 L (.str (PyData.shown (.list (sc L)))) (.ow (.list (sc (nf L)))) (.ow (.list ((run p0 L).map .int))) (.ow (.list ((run p0 (nf L)).map .int))) (.ow (.list (bars L))) a10) Dn X) :
    wL4 (envO s0 s1 s2 L (.str (PyData.shown (.list (sc L)))) (.ow (.list (sc (nf L)))) a7 a8 a9 a10) Dn X := by
  have I := nf_all ho hs
  have hn := nf_len L
  have o2 := I.ok
  have p2 := pdS_nf ho (by omega : L.length ≤ 300)
  simp [wL4]
  refine ⟨rfl, L, rfl, ok_okw ho, pdS_ok ho (by omega), by omega, ?_⟩
  simp
  refine ⟨rfl, nf L, rfl, o2, p2, by omega, ?_⟩
  simp [wL5]
  rw [ev_wLc]
  simp [okW, wipeE]
  have o10 : (match some a10 with
      | some Sl.no => True
      | some (Sl.sh d) => True
      | x => False) := by rcases h10 with rfl | ⟨d, rfl⟩ <;> trivial
  refine ⟨by rw [sc_length]; omega, o10, ?_⟩
  refine lc_at (ts := s0) (by omega) (fun i it acc k hit hz h1 h2 => ?_) ?_
  · have hi := (List.getElem?_eq_some_iff.mp hit).1
    simp [lcT, wipeE]
    refine ix_it _ hit ?_
    cases it with
    | bar m => simp [It.d, sh_bar, eqv_str, bb]; exact ix_run hi _ ⟨hz, h1 rfl⟩
    | mark m => simp [It.d, sh_mark, sh_bar, eqv_str, mb]; exact h2 rfl
    | rep m e => simp [It.d, sh_rep, sh_bar, eqv_str, rb]; exact h2 rfl
  · simp [restE]
    exact q _ h10
theorem st6 {a10 : Sl} (ho : ok [] L) (hs : smB L = true) (hl : L.length ≤ 280) (h10 : a10 = .no ∨ ∃ d, a10 = .sh d)
    (q : ∀ a7 a8 a9, wL7 (env s0 s1 s2 L (.str (PyData.shown (.list (sc L)))) (.ow (.list (sc (nf L)))) a7 a8 a9 a10) Dn X) :
    wL6 (env s0 s1 s2 L (.str (PyData.shown (.list (sc L)))) (.ow (.list (sc (nf L)))) (.ow (.list ((run p0 L).map .int))) (.ow (.list ((run p0 (nf L)).map .int))) (.ow (.list (bars L))) a10) Dn X := by
  have I := nf_all ho hs
  have hn := nf_len L
  have o2 := I.ok
  have p2 := pdS_nf ho (by omega : L.length ≤ 300)
  have hbe : bars (nf L) = bars L := by unfold bars; rw [I.t4]
  have hbl : (bars L).length ≤ 1000 := by
    unfold bars BT
    rw [List.length_map, List.length_map]
    exact Nat.le_trans (List.length_filter_le _ _) (by rw [List.length_range]; omega)
  have shb : SeqAt.shaped (.list (bars L)) = true := shaped_of (n := 0) (fun x hx => by
    obtain ⟨i, hi, rfl⟩ := List.mem_map.mp hx
    exact ⟨shaped_int _, by simp [PyData.depth]⟩) (by decide)
  have eqb : PyData.eqv (.list (bars L)) (.list (bars L)) = true := by
    have : ∀ l : List Int, PyData.eqvAll (l.map PyData.int) (l.map .int) = true := fun l => by
      induction l with
      | nil => simp [PyData.eqvAll]
      | cons a l ih => simp [PyData.eqvAll, PyData.eqv, ih]
    rw [PyData.eqv]
    exact this _
  simp [wL6]
  rw [ev_wLc]
  simp [okW, wipeE]
  have o10 : (match some a10 with
      | some Sl.no => True
      | some (Sl.sh d) => True
      | x => False) := by rcases h10 with rfl | ⟨d, rfl⟩ <;> trivial
  refine ⟨by rw [sc_length]; omega, o10, ?_⟩
  refine lc_at (ts := s0) (by omega) (fun i it acc k hit hz h1 h2 => ?_) ?_
  · have hi := (List.getElem?_eq_some_iff.mp hit).1
    simp [lcT, wipeE]
    refine ix_it _ hit ?_
    cases it with
    | bar m => simp [It.d, sh_bar, eqv_str, bb]; exact ix_run hi _ ⟨hz, h1 rfl⟩
    | mark m => simp [It.d, sh_mark, sh_bar, eqv_str, mb]; exact h2 rfl
    | rep m e => simp [It.d, sh_rep, sh_bar, eqv_str, rb]; exact h2 rfl
  · rw [hbe]
    simp [restE, shb, eqb]
    refine ⟨rfl, nf L, rfl, o2, p2, by omega, ?_⟩
    have et : total (nf L) = total L := I.t1
    simp [flatS, flatD, ix_lastE (run_last L), et, shaped_int, eqv_int]
    exact q _ _ _
end
def w_law : WS := wSeq (wDeck 0 1) (wSeq (wFor (wiR1 (wCons (wC (.int 12)) (wNil))) (wgName 2) (wSeq (wSet 3 (wCallIo fs_law_simpleE 1 [] (wCons (wOp oIx (wLst (wCons (wC (.int 12)) (wCons (wC (.int 12)) (wCons (wC (.int 12)) (wCons (wC (.int 60)) (wNil)))))) (wCallIo fs_law_drawX 1 [] (wCons (wC (.int 4)) (wNil)))) (wCons (wOp (oII (fun _ _ => True) (· - ·)) (wOp (oII CPowW fun i j => i ^ j.toNat) (wC (.int 10)) (wC (.int 9))) (wC (.int 1))) (wNil))))) (wSeq (wPar [4, 5] (wsCons (wCB (o1 oRepr) (wCons (wVar 3) (wNil))) (wsCons (wCall fs_law_normal [] (wCons (wVar 3) (wNil))) (wsNil)))) (wSeq (wSet 6 (wCall fs_normal_formW [] (wCons (wVar 3) (wNil)))) wL3)))) (wRet (wAndV (wOp oEq (wCall fs_normal_formW [] (wCons (wLst (wNil)) (wNil))) (wLst (wNil))) (wOp oEq (wCall fs_normal_formW [] (wCons (wLst (wCons (wTup (wCons (wC (.str "mark")) (wCons (wC (.str "a")) (wNil)))) (wNil))) (wNil))) (wLst (wNil))))))
theorem fv_law : FnV fsLaw 11 w_law := by
  rintro io ds Q X ⟨ns, hn, rfl, rfl, q⟩
  show w_law [.op 0 (.list (ns.map .int)), .no, .no, .no, .no, .no, .no, .no, .no, .no, .no] _ _
  simp [w_law, ev_wFor]
  refine ⟨⟨ns, rfl, hn⟩, ?_⟩
  refine loop_inv (fun i Γ => ∃ (c : Int) (a2 a3 a4 a5 a6 a7 a8 a9 a10 : Sl), Γ = [.op 0 (.list (ns.map .int)), .op 11 (.int c), a2, a3, a4, a5, a6, a7, a8, a9, a10] ∧ (a10 = .no ∨ ∃ d, a10 = .sh d) ∧ 0 ≤ c ∧ c ≤ 7000 * i) ⟨0, _, _, _, _, _, _, _, _, _, rfl, .inl rfl, by omega, by omega⟩ ?_ ?_
  · rintro i x Γ k hx ⟨c, a2, a3, a4, a5, a6, a7, a8, a9, a10, rfl, h10, c0, c1⟩ hk
    have hi := (List.getElem?_eq_some_iff.mp hx).1
    simp [rangeD] at hi
    simp only [rangeD, List.getElem?_map] at hx
    rw [List.getElem?_range hi] at hx
    cases (Option.some.inj hx)
    have t9 : CPowW 10 9 := pow10 9 (by decide) (by decide)
    simp
    refine dk (by omega) (by omega) (by omega) (by omega) fun r r0 r1 => ?_
    simp
    refine pick r0 (by simpa using r1) fun z hz => ?_
    obtain ⟨most, rfl, m0, m1⟩ : ∃ v : Int, z = .int v ∧ 0 ≤ v ∧ v ≤ 60 := by
      simp at hz
      rcases hz with rfl | rfl
      all_goals exact ⟨_, rfl, by decide, by decide⟩
    simp [t9]
    refine ⟨_, most, 999999999, rfl, by omega, by omega, rfl, m0, m1, by decide, by decide, fun L ca ho hl _ hs _ hmk hcn hbn g0 g1 => ?_⟩
    obtain ⟨r1, r2, r3⟩ := score_shown ho (by omega)
    simp [oRepr, r1, r2, r3]
    refine ⟨rfl, L, rfl, ho, by omega, hs, ?_⟩
    simp
    refine ask_nf (ok_okw ho) (pdS_ok ho (by omega)) (by omega) hs ?_
    simp
    refine st3 ho hs hl (st4 ho hs hl h10 fun b10 h11 => st6 ho hs hl h11 fun b7 b8 b9 => st7 ho hs hl fun b6 => ?_)
    exact hk _ ⟨ca, _, _, _, _, _, _, _, _, _, rfl, h11, by omega, by omega⟩
  · rintro Γ ⟨c, a2, a3, a4, a5, a6, a7, a8, a9, a10, rfl, h10, c0, c1⟩
    simp
    have e1 : PyData.list ([] : List D) = .list (sc []) := rfl
    have e2 : PyData.list [PyData.tuple [PyData.str "mark", PyData.str "a"]] = .list (sc [.mark "a"]) := rfl
    have o1 : okw [] [It.mark "a"] := ⟨by decide +kernel, by simp, trivial⟩
    have p1 : pdS [] := pdS_ok (L := []) trivial (by simp)
    have p2 : pdS [It.mark "a"] := pdS_ok (L := [.mark "a"]) ⟨by decide +kernel, by simp, trivial⟩ (by simp)
    have s0 : SeqAt.shaped (.list []) = true := by decide +kernel
    have q0 : PyData.eqv (.list []) (.list []) = true := by decide +kernel
    have n0 : sc (nf []) = [] := rfl
    have n1 : sc (nf [It.mark "a"]) = [] := rfl
    rw [e2]
    refine ask_nf (M := []) trivial p1 (by simp) (by decide +kernel) ?_
    simp [n0, s0, q0]
    refine ask_nf o1 p2 (by simp) (by decide +kernel) ?_
    simp [n1, s0, q0]
    exact q _ (by simp)
end K19

set_option Elab.async false
set_option linter.all false
set_option maxRecDepth 100000
namespace VL
open PySem PySem.Spec PyProof.Rows L2
end VL
namespace VL
open PySem L2
end VL

set_option Elab.async false
set_option linter.all false
set_option maxRecDepth 100000
set_option maxHeartbeats 400000
namespace K19
open PySem L2 VL SC
def top (i : Nat) : Stmt := PySem.Challenge.pw_wornsigns_k19_normal_forms.main.body.getD i (.Pass ⟨0, 0, 0, 0⟩)
abbrev s_law_deck : Stmt := top 29
abbrev N_law_deck : List Str := ["_law_script", "_law_pools", "_law_k", "_law_cell"]
theorem sc_law_deck : FnScope N_law_deck ["_law_script"] (defScope s_law_deck) := ⟨rfl, rfl, rfl, by decide +kernel, rfl, by decide +kernel, by decide +kernel⟩
abbrev s_law_draw : Stmt := top 30
abbrev N_law_draw : List Str := ["_law_deck_here", "_law_many", "_law_pool", "_law_found", "_law_mixed_here"]
theorem sc_law_draw : FnScope N_law_draw ["_law_deck_here", "_law_many"] (defScope s_law_draw) := ⟨rfl, rfl, rfl, by decide +kernel, rfl, by decide +kernel, by decide +kernel⟩
abbrev s_law_normal : Stmt := top 37
abbrev N_law_normal : List Str := ["_law_items", "_law_bar_of", "_law_names_before", "_law_item", "_law_used", "_law_found", "_law_mark_name"]
theorem sc_law_normal : FnScope N_law_normal ["_law_items"] (defScope s_law_normal) := ⟨rfl, rfl, rfl, by decide +kernel, rfl, by decide +kernel, by decide +kernel⟩
abbrev s_law_same : Stmt := top 34
abbrev N_law_same : List Str := ["_law_found", "_law_due", "_law_one", "_law_two"]
theorem sc_law_same : FnScope N_law_same ["_law_found", "_law_due"] (defScope s_law_same) := ⟨rfl, rfl, rfl, by decide +kernel, rfl, by decide +kernel, by decide +kernel⟩
abbrev s_law_mark_names : Stmt := top 31
abbrev N_law_mark_names : List Str := ["_law_found"]
theorem sc_law_mark_names : FnScope N_law_mark_names [] (defScope s_law_mark_names) := ⟨rfl, rfl, rfl, by decide +kernel, rfl, by decide +kernel, by decide +kernel⟩
abbrev s_law_mixed : Stmt := top 36
abbrev N_law_mixed : List Str := ["_law_deck_here", "_law_some", "_law_left", "_law_k"]
theorem sc_law_mixed : FnScope N_law_mixed ["_law_deck_here", "_law_some"] (defScope s_law_mixed) := ⟨rfl, rfl, rfl, by decide +kernel, rfl, by decide +kernel, by decide +kernel⟩
abbrev s_law_simple : Stmt := top 35
abbrev N_law_simple : List Str := ["_law_deck_here", "_law_most", "_law_wide", "_law_found", "_law_marks_so_far", "_law_unused", "_law_pool", "_law_letter", "_law_many", "_law_k", "_law_at", "_law_often"]
theorem sc_law_simple : FnScope N_law_simple ["_law_deck_here", "_law_most", "_law_wide"] (defScope s_law_simple) := ⟨rfl, rfl, rfl, by decide +kernel, rfl, by decide +kernel, by decide +kernel⟩
abbrev s_law_starts : Stmt := top 32
abbrev N_law_starts : List Str := ["_law_items", "_law_found", "_law_index", "_law_item"]
theorem sc_law_starts : FnScope N_law_starts ["_law_items"] (defScope s_law_starts) := ⟨rfl, rfl, rfl, by decide +kernel, rfl, by decide +kernel, by decide +kernel⟩
abbrev s_law_times : Stmt := top 33
abbrev N_law_times : List Str := ["_law_items", "_law_starts_here", "_law_found", "_law_index", "_law_item", "_law_more"]
theorem sc_law_times : FnScope N_law_times ["_law_items"] (defScope s_law_times) := ⟨rfl, rfl, rfl, by decide +kernel, rfl, by decide +kernel, by decide +kernel⟩
abbrev s_has_simple_form : Stmt := top 19
abbrev N_has_simple_form : List Str := ["score", "names", "item", "after"]
theorem sc_has_simple_form : FnScope N_has_simple_form ["score"] (defScope s_has_simple_form) := ⟨rfl, rfl, rfl, by decide +kernel, rfl, by decide +kernel, by decide +kernel⟩
abbrev s_is_integer : Stmt := top 10
abbrev N_is_integer : List Str := ["value", "low", "high"]
theorem sc_is_integer : FnScope N_is_integer ["value", "low", "high"] (defScope s_is_integer) := ⟨rfl, rfl, rfl, by decide +kernel, rfl, by decide +kernel, by decide +kernel⟩
abbrev s_is_name : Stmt := top 11
abbrev N_is_name : List Str := ["value", "letter"]
theorem sc_is_name : FnScope N_is_name ["value"] (defScope s_is_name) := ⟨rfl, rfl, rfl, by decide +kernel, rfl, by decide +kernel, by decide +kernel⟩
abbrev s_is_item : Stmt := top 12
abbrev N_is_item : List Str := ["value", "marks"]
theorem sc_is_item : FnScope N_is_item ["value", "marks"] (defScope s_is_item) := ⟨rfl, rfl, rfl, by decide +kernel, rfl, by decide +kernel, by decide +kernel⟩
abbrev s_is_score : Stmt := top 13
abbrev N_is_score : List Str := ["value", "marks", "index", "item"]
theorem sc_is_score : FnScope N_is_score ["value"] (defScope s_is_score) := ⟨rfl, rfl, rfl, by decide +kernel, rfl, by decide +kernel, by decide +kernel⟩
abbrev s_require_score : Stmt := top 14
abbrev N_require_score : List Str := ["score"]
theorem sc_require_score : FnScope N_require_score ["score"] (defScope s_require_score) := ⟨rfl, rfl, rfl, by decide +kernel, rfl, by decide +kernel, by decide +kernel⟩
abbrev s_is_simple : Stmt := top 20
abbrev N_is_simple : List Str := ["score"]
theorem sc_is_simple : FnScope N_is_simple ["score"] (defScope s_is_simple) := ⟨rfl, rfl, rfl, by decide +kernel, rfl, by decide +kernel, by decide +kernel⟩
abbrev s_append_repeat : Stmt := top 22
abbrev N_append_repeat : List Str := ["items", "name", "count"]
theorem sc_append_repeat : FnScope N_append_repeat ["items", "name", "count"] (defScope s_append_repeat) := ⟨rfl, rfl, rfl, by decide +kernel, rfl, by decide +kernel, by decide +kernel⟩
abbrev s_normalized : Stmt := top 23
abbrev N_normalized : List Str := ["score", "used", "items", "bars", "pending", "item", "name"]
theorem sc_normalized : FnScope N_normalized ["score"] (defScope s_normalized) := ⟨rfl, rfl, rfl, by decide +kernel, rfl, by decide +kernel, by decide +kernel⟩
abbrev s_require_simple : Stmt := top 21
abbrev N_require_simple : List Str := ["score"]
theorem sc_require_simple : FnScope N_require_simple ["score"] (defScope s_require_simple) := ⟨rfl, rfl, rfl, by decide +kernel, rfl, by decide +kernel, by decide +kernel⟩
abbrev s_normal_form : Stmt := top 24
abbrev N_normal_form : List Str := ["score"]
theorem sc_normal_form : FnScope N_normal_form ["score"] (defScope s_normal_form) := ⟨rfl, rfl, rfl, by decide +kernel, rfl, by decide +kernel, by decide +kernel⟩
abbrev s_mark_indices : Stmt := top 15
abbrev N_mark_indices : List Str := ["score", "index", "item"]
theorem sc_mark_indices : FnScope N_mark_indices ["score"] (defScope s_mark_indices) := ⟨rfl, rfl, rfl, by decide +kernel, rfl, by decide +kernel, by decide +kernel⟩
abbrev s_segment_starts : Stmt := top 16
abbrev N_segment_starts : List Str := ["score", "marks", "index", "item"]
theorem sc_segment_starts : FnScope N_segment_starts ["score"] (defScope s_segment_starts) := ⟨rfl, rfl, rfl, by decide +kernel, rfl, by decide +kernel, by decide +kernel⟩
abbrev s_arrival_times : Stmt := top 17
abbrev N_arrival_times : List Str := ["score", "starts", "times", "index", "item", "now"]
theorem sc_arrival_times : FnScope N_arrival_times ["score"] (defScope s_arrival_times) := ⟨rfl, rfl, rfl, by decide +kernel, rfl, by decide +kernel, by decide +kernel⟩
abbrev s_length_of : Stmt := top 26
abbrev N_length_of : List Str := ["score"]
theorem sc_length_of : FnScope N_length_of ["score"] (defScope s_length_of) := ⟨rfl, rfl, rfl, by decide +kernel, rfl, by decide +kernel, by decide +kernel⟩
abbrev s_total_length : Stmt := top 27
abbrev N_total_length : List Str := ["score"]
theorem sc_total_length : FnScope N_total_length ["score"] (defScope s_total_length) := ⟨rfl, rfl, rfl, by decide +kernel, rfl, by decide +kernel, by decide +kernel⟩
abbrev s_law : Stmt := top 38
abbrev N_law : List Str := ["_law_script", "_law_deck_here", "_law_turn", "_law_items", "_law_before", "_law_due", "_law_told", "_law_times_here", "_law_later", "_law_first", "_law_k"]
theorem sc_law : FnScope N_law ["_law_script"] (defScope s_law) := ⟨rfl, rfl, rfl, by decide +kernel, rfl, by decide +kernel, by decide +kernel⟩
structure Ms (mg : Str → Option Value) : Prop where
  f_all : mg "all" = none
  f_any : mg "any" = none
  f_bool : mg "bool" = none
  f_enumerate : mg "enumerate" = none
  f_int : mg "int" = none
  f_isinstance : mg "isinstance" = none
  f_len : mg "len" = none
  f_list : mg "list" = none
  f_max : mg "max" = none
  f_min : mg "min" = none
  f_range : mg "range" = none
  f_repr : mg "repr" = none
  f_set : mg "set" = none
  f_str : mg "str" = none
  f_tuple : mg "tuple" = none
  f_zip : mg "zip" = none
  c_BAR : ∃ t, mg "BAR" = some (.str "bar" t)
  c_LETTERS : ∃ t, mg "LETTERS" = some (.str "abcdefghijklmnopqrstuvwxyz" t)
  c_MARK : ∃ t, mg "MARK" = some (.str "mark" t)
  c_MAX_NAME_LENGTH : ∃ t, mg "MAX_NAME_LENGTH" = some (.int 8 t)
  c_REPEAT : ∃ t, mg "REPEAT" = some (.str "repeat" t)
theorem d_law_deck {P : Program} {w : World} {K : Fg} {mg : Str → Option Value} {base : Heap} {ca : Str → Addr} {f : Addr} (M : Ms mg)  (cdv : Value) (A : Around) (outer : List Env) (s : Shared) (H : Hp) (E : XK)
    (hr : Room 0 (A.deeper (PyProof.Rows.envOfC "_law_deck" (defScope s_law_deck) s.heap.objs.size f cdv))) : ∃ t, PSs (cxOf (L2N.CX P w) P w K mg base N_law_deck "_law_deck" (defScope s_law_deck) f cdv A outer s H E) (defBody s_law_deck) t ∧ SimS ⟨K, OpS K, ca⟩ (fun c d _ H => E c d H) t w_law_deck := by
  have hu := hu65 hr
  have tk : L2N.Takes (cxOf (L2N.CX P w) P w K mg base N_law_deck "_law_deck" (defScope s_law_deck) f cdv A outer s H E) (fun c d _ H => E c d H) := L2N.takes_of rfl rfl rfl rfl
  suffices h : ∃ t, DB (cxOf (L2N.CX P w) P w K mg base N_law_deck "_law_deck" (defScope s_law_deck) f cdv A outer s H E) ⟨K, OpS K, ca⟩ (fun c d _ H => E c d H) (defBody s_law_deck) t w_law_deck from let ⟨t, h⟩ := h; ⟨t, h.pe, h.sim⟩
  exact ⟨_, (db_cons (ds_set 1 sc_law_deck.nd (de_lst da_nil))
      (db_cons (ds_for .leaving rfl (di_range1 M.f_range (da_cons (de_b (b_max rfl) M.f_max (da_cons de_int (da_cons (de_b (b_min rfl) M.f_min (da_cons de_int (da_cons (de_lenS rfl rfl 0 M.f_len) da_nil))) da_nil))) da_nil)) (dg_name 2 sc_law_deck.nd) (db_cons (ds_set 3 sc_law_deck.nd de_int)
      (db_cons (ds_if (dt_cmp c_lt (dv 2) (de_lenS rfl rfl 0 M.f_len)) (db_one (ds_set 3 sc_law_deck.nd (de_ixS rfl rfl hu 0 (dv 2)))) db_nil)
      (db_one (ds_expr (de_append rfl 1 (de_lst (da_cons (dv 3) (da_cons (de_t (t_int) M.f_int (da_cons (de_cmp c_ge (dv 3) (de_pow de_int de_int)) da_nil)) (da_cons (de_mul de_int (dv 2)) da_nil))))))))))
      (db_one (ds_ret (de_lst (da_cons (dv 1) (da_cons de_int da_nil)))))))⟩
theorem d_law_draw {P : Program} {w : World} {K : Fg} {mg : Str → Option Value} {base : Heap} {ca : Str → Addr} {f : Addr} (M : Ms mg) (cdv : Value) (A : Around) (outer : List Env) (s : Shared) (H : Hp) (vs : List V) (Q : VK) (E : XK)
    (hr : Room 0 (A.deeper (PyProof.Rows.envOfC "_law_draw" (defScope s_law_draw) s.heap.objs.size f cdv))) (hsp : lift ⟨K, OpS K, ca⟩ fs_law_drawX vs H Q E) : ∃ t, PSs (cxOf (L2N.CX P w) P w K mg base N_law_draw "_law_draw" (defScope s_law_draw) f cdv A outer s H E) (defBody s_law_draw) t ∧ t { nx := fun _ H' => Q .non H', rt := Q } (L2.start N_law_draw vs) H := by
  have hu := hu65 hr
  have tk : L2N.Takes (cxOf (L2N.CX P w) P w K mg base N_law_draw "_law_draw" (defScope s_law_draw) f cdv A outer s H E) (fun c d _ H => E c d H) := L2N.takes_of rfl rfl rfl rfl
  obtain ⟨t3, h3⟩ : ∃ t3, DB (cxOf (L2N.CX P w) P w K mg base N_law_draw "_law_draw" (defScope s_law_draw) f cdv A outer s H E) ⟨K, OpS K, ca⟩ (fun c d _ H => E c d H) ((defBody s_law_draw).drop 2) t3 w_law_drawX := ⟨_, (db_cons (ds_if (dt_chn (dw_and (dt_cmp (c_eq rfl hu) (de_ix rfl hu (dv 2) de_int) de_int) (dw_and1 (dt_cmp c_gt (de_ix rfl hu (dv 2) de_int) de_int)))) (db_cons (ds_set 3 sc_law_draw.nd (de_mod (de_ix rfl hu (dv 2) de_int) (dv 1)))
      (db_cons (ds_lput 2 de_int (de_fdiv (de_ix rfl hu (dv 2) de_int) (dv 1)))
      (db_one (ds_ret (dv 3))))) db_nil)
      (db_cons (ds_lput 2 de_int (de_add rfl (de_ix rfl hu (dv 2) de_int) de_int))
      (db_cons (ds_set 4 sc_law_draw.nd (de_add rfl (de_mod (de_ix rfl hu (dv 2) de_int) de_int) (de_mul de_int (de_ix rfl hu (dv 2) de_int))))
      (db_cons (ds_set 4 sc_law_draw.nd (de_mod (de_pow (dv 4) de_int) de_int))
      (db_cons (ds_set 4 sc_law_draw.nd (de_mod (de_pow (de_add rfl (dv 4) (de_mul de_int (de_ix rfl hu (dv 2) de_int))) de_int) de_int))
      (db_one (ds_ret (de_mod (de_fdiv (dv 4) de_int) (dv 1)))))))))⟩
  exact ⟨_, pss_cons (show DS (cxOf (L2N.CX P w) P w K mg base N_law_draw "_law_draw" (defScope s_law_draw) f cdv A outer s H E) ⟨K, OpS K, ca⟩ (fun c d _ H => E c d H) _ _ _ from (ds_set 2 sc_law_draw.nd (de_ix rfl hu (de_ix rfl hu (dv 0) de_int) (de_mod (de_ix rfl hu (dv 0) de_int) (de_b (b_len rfl) M.f_len (da_cons (de_ix rfl hu (dv 0) de_int) da_nil)))))).pe (pss_cons (show DS (cxOf (L2N.CX P w) P w K mg base N_law_draw "_law_draw" (defScope s_law_draw) f cdv A outer s H E) ⟨K, OpS K, ca⟩ (fun c d _ H => E c d H) _ _ _ from (ds_lput 0 de_int (de_add rfl (de_ix rfl hu (dv 0) de_int) de_int))).pe h3.pe), deck_run rfl rest_ok h3.sim hsp⟩
theorem d_law_normal {P : Program} {w : World} {K : Fg} {mg : Str → Option Value} {base : Heap} {ca : Str → Addr} {f : Addr} (M : Ms mg)  (cdv : Value) (A : Around) (outer : List Env) (s : Shared) (H : Hp) (E : XK)
    (hr : Room 0 (A.deeper (PyProof.Rows.envOfC "_law_normal" (defScope s_law_normal) s.heap.objs.size f cdv))) : ∃ t, PSs (cxOf (L2N.CX P w) P w K mg base N_law_normal "_law_normal" (defScope s_law_normal) f cdv A outer s H E) (defBody s_law_normal) t ∧ SimS ⟨K, OpS K, ca⟩ (fun c d _ H => E c d H) t w_law_normal := by
  have hu := hu65 hr
  have tk : L2N.Takes (cxOf (L2N.CX P w) P w K mg base N_law_normal "_law_normal" (defScope s_law_normal) f cdv A outer s H E) (fun c d _ H => E c d H) := L2N.takes_of rfl rfl rfl rfl
  suffices h : ∃ t, DB (cxOf (L2N.CX P w) P w K mg base N_law_normal "_law_normal" (defScope s_law_normal) f cdv A outer s H E) ⟨K, OpS K, ca⟩ (fun c d _ H => E c d H) (defBody s_law_normal) t w_law_normal from let ⟨t, h⟩ := h; ⟨t, h.pe, h.sim⟩
  exact ⟨_, (db_cons (pg_names (is := [1, 2]) rfl rfl (dl_cons de_dict0 (dl_cons (de_lst da_nil) dl_nil)) (pgs_cons (pg_name (i := 1) sc_law_normal.nd rfl (by first | exact .inl rfl | exact .inr rfl)) (pgs_cons (pg_name (i := 2) sc_law_normal.nd rfl (by first | exact .inl rfl | exact .inr rfl)) pgs_nil)) rfl (by decide))
      (db_cons (ds_for .leaving rfl (di_list rfl (dv 0)) (dg_name 3 sc_law_normal.nd) (db_cons (ds_set 2 sc_law_normal.nd (de_if (dt_cmp (c_eq rfl hu) (de_ix rfl hu (dv 3) de_int) de_str) (de_add rfl (dv 2) (de_lst (da_cons (de_ix rfl hu (dv 3) de_int) da_nil))) (dv 2)))
      (db_one (ds_if (dt_cmp (c_eq rfl hu) (de_ix rfl hu (dv 3) de_int) de_str) (db_cons (ds_expr (de_dupdL rfl rfl 1 (de_lc (own := [("_law_mark_name", 6)]) rfl sc_law_normal.nd (di_list rfl (dv 2)) (blkOk_by (N := N_law_normal) (sc := defScope s_law_normal) (by decide +kernel)) (by decide) (fun _ _ _ _ _ => (dgw_name 6 sc_law_normal.nd)) (fun _ _ _ _ _ => dts_nil) (fun _ _ _ _ _ => (de_tup (da_cons (dv 6) (da_cons (de_ix rfl hu (dv 3) de_int) da_nil)))))))
      (db_one (ds_set 2 sc_law_normal.nd (de_lst da_nil)))) db_nil))))
      (db_cons (ds_setLc 4 (own := [("_law_item", 3)]) rfl sc_law_normal.nd (di_list rfl (dv 0)) (blkOk_by (N := N_law_normal) (sc := defScope s_law_normal) (by decide +kernel)) (by decide) (fun _ _ _ _ _ => (dgw_name 3 sc_law_normal.nd)) (fun _ _ _ _ _ => (dts_one (dt_cmp (c_eq rfl hu) (de_ix rfl hu (dv 3) de_int) de_str))) (fun _ _ _ _ _ => (de_ix rfl hu (dv 1) (de_ix rfl hu (dv 3) de_int))) (sw_true rfl rfl rfl (by decide +kernel)))
      (db_cons (ds_set 5 sc_law_normal.nd (de_lst da_nil))
      (db_cons (ds_for .leaving rfl (di_list rfl (dv 0)) (dg_name 3 sc_law_normal.nd) (db_one (ds_if (dt_cmp (c_eq rfl hu) (de_ix rfl hu (dv 3) de_int) de_str) (db_one (ds_set 5 sc_law_normal.nd (de_add rfl (de_add rfl (dv 5) (de_mul (de_lst (da_cons (de_tup (da_cons de_str (da_cons (de_ix rfl hu (dv 3) de_int) da_nil))) da_nil)) (de_t (t_int) M.f_int (da_cons (de_cmp (c_in rfl hu) (de_ix rfl hu (dv 3) de_int) (dv 4)) da_nil)))) (de_lst (da_cons (dv 3) da_nil))))) (db_one (ds_if (dt_chn (dw_and (dt_cmp (c_eq rfl hu) (de_ix rfl hu (dv 3) de_int) de_str) (dw_and1 (dt_cmp (c_eq rfl hu) (de_slT rfl (de_ix rfl hu (dv 5) (de_neg de_int)) do_none (do_some de_int)) (de_tup (da_cons de_str (da_cons (de_ix rfl hu (dv 1) (de_ix rfl hu (dv 3) de_int)) da_nil))))))) (db_one (ds_lput 5 (de_neg de_int) (de_tup (da_cons de_str (da_cons (de_ix rfl hu (dv 1) (de_ix rfl hu (dv 3) de_int)) (da_cons (de_sub (de_mul (de_add rfl (de_ix rfl hu (de_ix rfl hu (dv 5) (de_neg de_int)) de_int) de_int) (de_add rfl (de_ix rfl hu (dv 3) de_int) de_int)) de_int) da_nil)))))) (db_one (ds_if (dt_cmp (c_eq rfl hu) (de_ix rfl hu (dv 3) de_int) de_str) (db_one (ds_expr (de_append rfl 5 (de_tup (da_cons de_str (da_cons (de_ix rfl hu (dv 1) (de_ix rfl hu (dv 3) de_int)) (da_cons (de_ix rfl hu (dv 3) de_int) da_nil))))))) db_nil)))))))
      (db_one (ds_ret (dv 5))))))))⟩
theorem d_law_same {P : Program} {w : World} {K : Fg} {mg : Str → Option Value} {base : Heap} {ca : Str → Addr} {f : Addr} (M : Ms mg) {fsr : FS} {k0 : Nat} (g_law_same : Gd P w ⟨K, OpS K, ca⟩ mg base k0 "_law_same" fsr ["_law_found", "_law_due"] []) (cdv : Value) (A : Around) (outer : List Env) (s : Shared) (H : Hp) (E : XK)
    (hr : Room k0 (A.deeper (PyProof.Rows.envOfC "_law_same" (defScope s_law_same) s.heap.objs.size f cdv))) : ∃ t, PSs (cxOf (L2N.CX P w) P w K mg base N_law_same "_law_same" (defScope s_law_same) f cdv A outer s H E) (defBody s_law_same) t ∧ SimS ⟨K, OpS K, ca⟩ (fun c d _ H => E c d H) t (w_law_same fsr) := by
  have hu := hu65 hr
  have tk : L2N.Takes (cxOf (L2N.CX P w) P w K mg base N_law_same "_law_same" (defScope s_law_same) f cdv A outer s H E) (fun c d _ H => E c d H) := L2N.takes_of rfl rfl rfl rfl
  suffices h : ∃ t, DB (cxOf (L2N.CX P w) P w K mg base N_law_same "_law_same" (defScope s_law_same) f cdv A outer s H E) ⟨K, OpS K, ca⟩ (fun c d _ H => E c d H) (defBody s_law_same) t (w_law_same fsr) from let ⟨t, h⟩ := h; ⟨t, h.pe, h.sim⟩
  exact ⟨_, (db_cons (ds_if (dt_val (de_isi2 rfl kit_list kit_tuple M.f_isinstance M.f_list M.f_tuple (dv 1))) (db_cons (ds_if (dt_chn (dw_or (dt_not (dt_val (de_isi2 rfl kit_list kit_tuple M.f_isinstance M.f_list M.f_tuple (dv 0)))) (dw_or1 (dt_cmp (c_ne rfl hu) (de_isi rfl kit_list M.f_isinstance M.f_list (dv 0)) (de_isi rfl kit_list M.f_isinstance M.f_list (dv 1)))))) (db_one (ds_ret de_bl)) db_nil)
      (db_one (ds_ret (de_and (de_cmp (c_eq rfl hu) (de_b (b_len rfl) M.f_len (da_cons (dv 0) da_nil)) (de_b (b_len rfl) M.f_len (da_cons (dv 1) da_nil))) (de_one (de_b (b_all rfl rfl) M.f_all (da_cons (de_lc (own := [("_law_one", 2), ("_law_two", 3)]) rfl sc_law_same.nd (di_zipA rfl M.f_zip (da_cons (dv 0) (da_cons (dv 1) da_nil))) (blkOk_by (N := N_law_same) (sc := defScope s_law_same) (by decide +kernel)) (by decide) (fun _ _ _ _ _ => (dgw_tup (n := 2) rfl rfl (dgsw_cons (dgw_name 2 sc_law_same.nd) (dgsw_cons (dgw_name 3 sc_law_same.nd) dgsw_nil)))) (fun _ _ _ _ _ => dts_nil) (fun _ _ _ _ _ => (de_call rfl g_law_same hr takes0N (da_cons (dv 2) (da_cons (dv 3) da_nil))))) da_nil))))))) db_nil)
      (db_one (ds_ret (de_and (de_cmp (c_eq rfl hu) (de_isi rfl kit_bool M.f_isinstance M.f_bool (dv 0)) (de_isi rfl kit_bool M.f_isinstance M.f_bool (dv 1))) (de_one (de_cmp (c_eq rfl hu) (dv 0) (dv 1)))))))⟩
theorem d_law_mark_names {P : Program} {w : World} {K : Fg} {mg : Str → Option Value} {base : Heap} {ca : Str → Addr} {f : Addr} (M : Ms mg)  (cdv : Value) (A : Around) (outer : List Env) (s : Shared) (H : Hp) (E : XK)
    (hr : Room 0 (A.deeper (PyProof.Rows.envOfC "_law_mark_names" (defScope s_law_mark_names) s.heap.objs.size f cdv))) : ∃ t, PSs (cxOf (L2N.CX P w) P w K mg base N_law_mark_names "_law_mark_names" (defScope s_law_mark_names) f cdv A outer s H E) (defBody s_law_mark_names) t ∧ SimS ⟨K, OpS K, ca⟩ (fun c d _ H => E c d H) t w_law_mark_names := by
  have hu := hu65 hr
  have tk : L2N.Takes (cxOf (L2N.CX P w) P w K mg base N_law_mark_names "_law_mark_names" (defScope s_law_mark_names) f cdv A outer s H E) (fun c d _ H => E c d H) := L2N.takes_of rfl rfl rfl rfl
  suffices h : ∃ t, DB (cxOf (L2N.CX P w) P w K mg base N_law_mark_names "_law_mark_names" (defScope s_law_mark_names) f cdv A outer s H E) ⟨K, OpS K, ca⟩ (fun c d _ H => E c d H) (defBody s_law_mark_names) t w_law_mark_names from let ⟨t, h⟩ := h; ⟨t, h.pe, h.sim⟩
  exact ⟨_, (db_cons (ds_set 0 sc_law_mark_names.nd (de_add rfl (de_t (t_listS rfl) M.f_list (da_cons de_str da_nil)) (de_lst (da_cons de_str (da_cons de_str (da_cons de_str (da_cons de_str (da_cons de_str (da_cons de_str (da_cons de_str (da_cons de_str da_nil)))))))))))
      (db_one (ds_ret (de_add rfl (dv 0) (de_lst (da_cons de_str (da_cons de_str (da_cons de_str (da_cons de_str (da_cons de_str (da_cons de_str da_nil)))))))))))⟩
theorem d_law_mixed {P : Program} {w : World} {K : Fg} {mg : Str → Option Value} {base : Heap} {ca : Str → Addr} {f : Addr} (M : Ms mg) (g_law_draw : Gd P w ⟨K, OpS K, ca⟩ mg base 1 "_law_draw" fs_law_drawX ["_law_deck_here", "_law_many"] []) (cdv : Value) (A : Around) (outer : List Env) (s : Shared) (H : Hp) (E : XK)
    (hr : Room 1 (A.deeper (PyProof.Rows.envOfC "_law_mixed" (defScope s_law_mixed) s.heap.objs.size f cdv))) : ∃ t, PSs (cxOf (L2N.CX P w) P w K mg base N_law_mixed "_law_mixed" (defScope s_law_mixed) f cdv A outer s H E) (defBody s_law_mixed) t ∧ SimS ⟨K, OpS K, ca⟩ (fun c d _ H => E c d H) t w_law_mixed := by
  have hu := hu65 hr
  have tk : L2N.Takes (cxOf (L2N.CX P w) P w K mg base N_law_mixed "_law_mixed" (defScope s_law_mixed) f cdv A outer s H E) (fun c d _ H => E c d H) := L2N.takes_of rfl rfl rfl rfl
  suffices h : ∃ t, DB (cxOf (L2N.CX P w) P w K mg base N_law_mixed "_law_mixed" (defScope s_law_mixed) f cdv A outer s H E) ⟨K, OpS K, ca⟩ (fun c d _ H => E c d H) (defBody s_law_mixed) t w_law_mixed from let ⟨t, h⟩ := h; ⟨t, h.pe, h.sim⟩
  exact ⟨_, (db_cons (ds_set 2 sc_law_mixed.nd (de_t (t_list rfl) M.f_list (da_cons (dv 1) da_nil)))
      (db_one (ds_ret (de_lc (own := [("_law_k", 3)]) rfl sc_law_mixed.nd (di_range1 M.f_range (da_cons (de_b (b_len rfl) M.f_len (da_cons (dv 1) da_nil)) da_nil)) (blkOk_by (N := N_law_mixed) (sc := defScope s_law_mixed) (by decide +kernel)) (by decide) (fun _ _ _ _ _ => (dgw_name 3 sc_law_mixed.nd)) (fun _ _ _ _ _ => dts_nil) (fun _ _ _ _ _ => (de_pop1 rfl 2 (de_callIo rfl 0 g_law_draw hr takes0N (da_cons (de_b (b_len rfl) M.f_len (da_cons (dv 2) da_nil)) da_nil))))))))⟩
theorem d_law_simple {P : Program} {w : World} {K : Fg} {mg : Str → Option Value} {base : Heap} {ca : Str → Addr} {f : Addr} (M : Ms mg) (g_law_draw : Gd P w ⟨K, OpS K, ca⟩ mg base 2 "_law_draw" fs_law_drawX ["_law_deck_here", "_law_many"] []) (g_law_mark_names : Gd P w ⟨K, OpS K, ca⟩ mg base 2 "_law_mark_names" fs_law_mark_names [] []) (g_law_mixed : Gd P w ⟨K, OpS K, ca⟩ mg base 2 "_law_mixed" fs_law_mixed ["_law_deck_here", "_law_some"] []) (cdv : Value) (A : Around) (outer : List Env) (s : Shared) (H : Hp) (E : XK)
    (hr : Room 2 (A.deeper (PyProof.Rows.envOfC "_law_simple" (defScope s_law_simple) s.heap.objs.size f cdv))) : ∃ t, PSs (cxOf (L2N.CX P w) P w K mg base N_law_simple "_law_simple" (defScope s_law_simple) f cdv A outer s H E) (defBody s_law_simple) t ∧ SimS ⟨K, OpS K, ca⟩ (fun c d _ H => E c d H) t w_law_simpleE := by
  have hu := hu65 hr
  have tk : L2N.Takes (cxOf (L2N.CX P w) P w K mg base N_law_simple "_law_simple" (defScope s_law_simple) f cdv A outer s H E) (fun c d _ H => E c d H) := L2N.takes_of rfl rfl rfl rfl
  suffices h : ∃ t, DB (cxOf (L2N.CX P w) P w K mg base N_law_simple "_law_simple" (defScope s_law_simple) f cdv A outer s H E) ⟨K, OpS K, ca⟩ (fun c d _ H => E c d H) (defBody s_law_simple) t w_law_simpleE from let ⟨t, h⟩ := h; ⟨t, h.pe, h.sim⟩
  exact ⟨_, (db_cons (ds_par3 3 4 5 rfl sc_law_simple.nd (dl_cons (de_lst da_nil) (dl_cons (de_lst da_nil) (dl_cons (de_call0 rfl g_law_mark_names hr tk) dl_nil))))
      (db_cons (ds_set 6 sc_law_simple.nd (de_t (t_listS rfl) M.f_list (da_cons de_str da_nil)))
      (db_cons (ds_if (dt_cmp c_gt (dv 1) de_int) (db_cons (ds_set 6 sc_law_simple.nd (de_add rfl (dv 6) (de_lc (own := [("_law_letter", 7)]) rfl sc_law_simple.nd (di_str de_str) (blkOk_by (N := N_law_simple) (sc := defScope s_law_simple) (by decide +kernel)) (by decide) (fun _ _ _ _ _ => (dgw_name 7 sc_law_simple.nd)) (fun _ _ _ _ _ => dts_nil) (fun _ _ _ _ _ => (de_add rfl de_str (dv 7))))))
      (db_one (ds_set 6 sc_law_simple.nd (de_add rfl (dv 6) (de_lc (own := [("_law_letter", 7)]) rfl sc_law_simple.nd (di_str de_str) (blkOk_by (N := N_law_simple) (sc := defScope s_law_simple) (by decide +kernel)) (by decide) (fun _ _ _ _ _ => (dgw_name 7 sc_law_simple.nd)) (fun _ _ _ _ _ => dts_nil) (fun _ _ _ _ _ => (de_add rfl de_str (dv 7)))))))) db_nil)
      (db_cons (ds_for .leaving rfl (di_list rfl (de_slL rfl (de_callIo rfl 0 g_law_mixed hr tk (da_cons (dv 6) da_nil)) do_none (do_some (de_callIo rfl 0 g_law_draw hr tk (da_cons (de_add rfl (dv 1) de_int) da_nil))))) (dg_name 7 sc_law_simple.nd) (db_cons (ds_set 8 sc_law_simple.nd (de_mul (de_ix rfl hu (de_lst (da_cons de_int (da_cons de_int (da_cons de_int (da_cons de_int da_nil))))) (de_callIo rfl 0 g_law_draw hr tk (da_cons de_int da_nil))) (de_ix rfl hu (de_lst (da_cons de_int (da_cons de_int (da_cons de_int (da_cons de_int da_nil))))) (de_callIo rfl 0 g_law_draw hr tk (da_cons de_int da_nil)))))
      (db_cons (ds_for .leaving rfl (di_range1 M.f_range (da_cons (de_mul (dv 8) (de_t (t_int) M.f_int (da_cons (de_cmp c_gt (de_b (b_len rfl) M.f_len (da_cons (dv 5) da_nil)) de_int) da_nil))) da_nil)) (dg_name 9 sc_law_simple.nd) (db_cons (ds_expr (de_append rfl 4 (de_pop1 rfl 5 (de_callIo rfl 0 g_law_draw hr tk (da_cons (de_b (b_len rfl) M.f_len (da_cons (dv 5) da_nil)) da_nil)))))
      (db_one (ds_expr (de_append rfl 3 (de_tup (da_cons de_str (da_cons (de_ix rfl hu (dv 4) (de_neg de_int)) da_nil))))))))
      (db_cons (ds_expr (de_append rfl 3 (de_tup (da_cons de_str (da_cons (de_ix rfl hu (de_lst (da_cons (dv 7) (da_cons (de_add rfl (dv 7) de_str) da_nil))) (de_callIo rfl 0 g_law_draw hr tk (da_cons de_int da_nil))) da_nil)))))
      (db_cons (ds_set 8 sc_law_simple.nd (de_mul (de_ix rfl hu (de_lst (da_cons de_int (da_cons de_int (da_cons de_int (da_cons de_int (da_cons de_int (da_cons de_int da_nil))))))) (de_callIo rfl 0 g_law_draw hr tk (da_cons de_int da_nil))) (de_ix rfl hu (de_lst (da_cons de_int (da_cons de_int (da_cons de_int (da_cons de_int da_nil))))) (de_callIo rfl 0 g_law_draw hr tk (da_cons de_int da_nil)))))
      (db_one (ds_for .leaving rfl (di_range1 M.f_range (da_cons (de_mul (dv 8) (de_t (t_int) M.f_int (da_cons (de_cmp (c_ne rfl hu) (dv 4) (de_lst da_nil)) da_nil))) da_nil)) (dg_name 9 sc_law_simple.nd) (db_cons (ds_set 10 sc_law_simple.nd (de_ix rfl hu (de_lst (da_cons (de_sub (de_b (b_len rfl) M.f_len (da_cons (dv 4) da_nil)) de_int) (da_cons (de_callIo rfl 0 g_law_draw hr tk (da_cons (de_b (b_len rfl) M.f_len (da_cons (dv 4) da_nil)) da_nil)) da_nil))) (de_callIo rfl 0 g_law_draw hr tk (da_cons de_int da_nil))))
      (db_cons (ds_set 11 sc_law_simple.nd (de_add rfl de_int (de_ix rfl hu (de_lst (da_cons (de_callIo rfl 0 g_law_draw hr tk (da_cons de_int da_nil)) (da_cons (de_callIo rfl 0 g_law_draw hr tk (da_cons (dv 2) da_nil)) da_nil))) (de_callIo rfl 0 g_law_draw hr tk (da_cons de_int da_nil)))))
      (db_one (ds_expr (de_append rfl 3 (de_tup (da_cons de_str (da_cons (de_ix rfl hu (dv 4) (dv 10)) (da_cons (dv 11) da_nil))))))))))))))))
      (db_cons (ds_if (dt_cmp (c_eq rfl hu) (de_callIo rfl 0 g_law_draw hr tk (da_cons de_int da_nil)) de_int) (db_one (ds_expr (de_append rfl 3 (de_tup (da_cons de_str (da_cons de_str da_nil)))))) db_nil)
      (db_one (ds_ret (de_slL rfl (dv 3) do_none (do_some de_int)))))))))⟩
theorem d_law_starts {P : Program} {w : World} {K : Fg} {mg : Str → Option Value} {base : Heap} {ca : Str → Addr} {f : Addr} (M : Ms mg)  (cdv : Value) (A : Around) (outer : List Env) (s : Shared) (H : Hp) (E : XK)
    (hr : Room 0 (A.deeper (PyProof.Rows.envOfC "_law_starts" (defScope s_law_starts) s.heap.objs.size f cdv))) : ∃ t, PSs (cxOf (L2N.CX P w) P w K mg base N_law_starts "_law_starts" (defScope s_law_starts) f cdv A outer s H E) (defBody s_law_starts) t ∧ SimS ⟨K, OpS K, ca⟩ (fun c d _ H => E c d H) t w_law_startsW := by
  have hu := hu65 hr
  have tk : L2N.Takes (cxOf (L2N.CX P w) P w K mg base N_law_starts "_law_starts" (defScope s_law_starts) f cdv A outer s H E) (fun c d _ H => E c d H) := L2N.takes_of rfl rfl rfl rfl
  suffices h : ∃ t, DB (cxOf (L2N.CX P w) P w K mg base N_law_starts "_law_starts" (defScope s_law_starts) f cdv A outer s H E) ⟨K, OpS K, ca⟩ (fun c d _ H => E c d H) (defBody s_law_starts) t w_law_startsW from let ⟨t, h⟩ := h; ⟨t, h.pe, h.sim⟩
  exact ⟨_, (db_cons (ds_set 1 sc_law_starts.nd de_dict0)
      (db_cons (ds_for .leaving rfl (di_enum rfl M.f_enumerate (da_cons (dv 0) da_nil)) (dg_tup (n := 2) rfl rfl (dgs_cons (dg_name 2 sc_law_starts.nd) (dgs_cons (dg_name 3 sc_law_starts.nd) dgs_nil))) (db_one (ds_if (dt_cmp (c_eq rfl hu) (de_ix rfl hu (dv 3) de_int) de_str) (db_one (ds_dput hu 1 (dv 2) (de_add rfl (de_index rfl hu (dv 0) (de_tup (da_cons de_str (da_cons (de_ix rfl hu (dv 3) de_int) da_nil)))) de_int))) db_nil)))
      (db_one (ds_ret (dv 1)))))⟩
theorem d_law_times {P : Program} {w : World} {K : Fg} {mg : Str → Option Value} {base : Heap} {ca : Str → Addr} {f : Addr} (M : Ms mg) (g_law_starts : Gd P w ⟨K, OpS K, ca⟩ mg base 1 "_law_starts" fs_law_startsW ["_law_items"] []) (cdv : Value) (A : Around) (outer : List Env) (s : Shared) (H : Hp) (E : XK)
    (hr : Room 1 (A.deeper (PyProof.Rows.envOfC "_law_times" (defScope s_law_times) s.heap.objs.size f cdv))) : ∃ t, PSs (cxOf (L2N.CX P w) P w K mg base N_law_times "_law_times" (defScope s_law_times) f cdv A outer s H E) (defBody s_law_times) t ∧ SimS ⟨K, OpS K, ca⟩ (fun c d _ H => E c d H) t w_law_timesW := by
  have hu := hu65 hr
  have tk : L2N.Takes (cxOf (L2N.CX P w) P w K mg base N_law_times "_law_times" (defScope s_law_times) f cdv A outer s H E) (fun c d _ H => E c d H) := L2N.takes_of rfl rfl rfl rfl
  suffices h : ∃ t, DB (cxOf (L2N.CX P w) P w K mg base N_law_times "_law_times" (defScope s_law_times) f cdv A outer s H E) ⟨K, OpS K, ca⟩ (fun c d _ H => E c d H) (defBody s_law_times) t w_law_timesW from let ⟨t, h⟩ := h; ⟨t, h.pe, h.sim⟩
  exact ⟨_, (db_cons (ds_par 1 2 rfl sc_law_times.nd (dl_cons (de_call rfl g_law_starts hr tk (da_cons (dv 0) da_nil)) (dl_cons (de_lst (da_cons de_int da_nil)) dl_nil)))
      (db_cons (ds_for .leaving rfl (di_enum rfl M.f_enumerate (da_cons (dv 0) da_nil)) (dg_tup (n := 2) rfl rfl (dgs_cons (dg_name 3 sc_law_times.nd) (dgs_cons (dg_name 4 sc_law_times.nd) dgs_nil))) (db_cons (ds_set 5 sc_law_times.nd (de_if (dt_cmp (c_eq rfl hu) (de_ix rfl hu (dv 4) de_int) de_str) de_int de_int))
      (db_cons (ds_if (dt_cmp (c_eq rfl hu) (de_ix rfl hu (dv 4) de_int) de_str) (db_one (ds_set 5 sc_law_times.nd (de_mul (de_ix rfl hu (dv 4) de_int) (de_sub (de_ix rfl hu (dv 2) (dv 3)) (de_ix rfl hu (dv 2) (de_ix rfl hu (dv 1) (dv 3))))))) db_nil)
      (db_one (ds_expr (de_append rfl 2 (de_add rfl (de_ix rfl hu (dv 2) (de_neg de_int)) (dv 5))))))))
      (db_one (ds_ret (dv 2)))))⟩
theorem d_has_simple_form {P : Program} {w : World} {K : Fg} {mg : Str → Option Value} {base : Heap} {ca : Str → Addr} {f : Addr} (M : Ms mg)  (cdv : Value) (A : Around) (outer : List Env) (s : Shared) (H : Hp) (E : XK)
    (hr : Room 0 (A.deeper (PyProof.Rows.envOfC "has_simple_form" (defScope s_has_simple_form) s.heap.objs.size f cdv))) : ∃ t, PSs (cxOf (L2N.CX P w) P w K mg base N_has_simple_form "has_simple_form" (defScope s_has_simple_form) f cdv A outer s H E) (defBody s_has_simple_form) t ∧ SimS ⟨K, OpS K, ca⟩ (fun c d _ H => E c d H) t w_has_simple_form := by
  have hu := hu65 hr
  have tk : L2N.Takes (cxOf (L2N.CX P w) P w K mg base N_has_simple_form "has_simple_form" (defScope s_has_simple_form) f cdv A outer s H E) (fun c d _ H => E c d H) := L2N.takes_of rfl rfl rfl rfl
  suffices h : ∃ t, DB (cxOf (L2N.CX P w) P w K mg base N_has_simple_form "has_simple_form" (defScope s_has_simple_form) f cdv A outer s H E) ⟨K, OpS K, ca⟩ (fun c d _ H => E c d H) (defBody s_has_simple_form) t w_has_simple_form from let ⟨t, h⟩ := h; ⟨t, h.pe, h.sim⟩
  exact ⟨_, (db_cons (ds_setLc 1 (own := [("item", 2)]) rfl sc_has_simple_form.nd (di_list rfl (dv 0)) (blkOk_by (N := N_has_simple_form) (sc := defScope s_has_simple_form) (by decide +kernel)) (by decide) (fun _ _ _ _ _ => (dgw_name 2 sc_has_simple_form.nd)) (fun _ _ _ _ _ => (dts_one (dt_cmp (c_eq rfl hu) (de_ix rfl hu (dv 2) de_int) (de_gstr M.c_BAR)))) (fun _ _ _ _ _ => (de_ix rfl hu (dv 2) de_int)) (sw_true rfl rfl rfl (by decide +kernel)))
      (db_cons (ds_if (dt_cmp c_lt (de_lnS rfl rfl M.f_len M.f_set (dv 1)) (de_b (b_len rfl) M.f_len (da_cons (dv 1) da_nil))) (db_one (ds_ret de_bl)) db_nil)
      (db_one (ds_ret (de_not (de_b (b_any rfl rfl) M.f_any (da_cons (de_lc (own := [("item", 2), ("after", 3)]) rfl sc_has_simple_form.nd (di_zipA rfl M.f_zip (da_cons (dv 0) (da_cons (de_slL rfl (dv 0) (do_some de_int) do_none) da_nil))) (blkOk_by (N := N_has_simple_form) (sc := defScope s_has_simple_form) (by decide +kernel)) (by decide) (fun _ _ _ _ _ => (dgw_tup (n := 2) rfl rfl (dgsw_cons (dgw_name 2 sc_has_simple_form.nd) (dgsw_cons (dgw_name 3 sc_has_simple_form.nd) dgsw_nil)))) (fun _ _ _ _ _ => dts_nil) (fun _ _ _ _ _ => (de_and (de_cmp (c_eq rfl hu) (de_ix rfl hu (dv 2) de_int) (de_gstr M.c_MARK)) (de_one (de_cmp (c_eq rfl hu) (de_ix rfl hu (dv 3) de_int) (de_gstr M.c_REPEAT)))))) da_nil)))))))⟩
theorem d_is_integer {P : Program} {w : World} {K : Fg} {mg : Str → Option Value} {base : Heap} {ca : Str → Addr} {f : Addr} (M : Ms mg)  (cdv : Value) (A : Around) (outer : List Env) (s : Shared) (H : Hp) (E : XK)
    (hr : Room 0 (A.deeper (PyProof.Rows.envOfC "is_integer" (defScope s_is_integer) s.heap.objs.size f cdv))) : ∃ t, PSs (cxOf (L2N.CX P w) P w K mg base N_is_integer "is_integer" (defScope s_is_integer) f cdv A outer s H E) (defBody s_is_integer) t ∧ SimS ⟨K, OpS K, ca⟩ (fun c d _ H => E c d H) t w_is_integer := by
  have hu := hu65 hr
  have tk : L2N.Takes (cxOf (L2N.CX P w) P w K mg base N_is_integer "is_integer" (defScope s_is_integer) f cdv A outer s H E) (fun c d _ H => E c d H) := L2N.takes_of rfl rfl rfl rfl
  suffices h : ∃ t, DB (cxOf (L2N.CX P w) P w K mg base N_is_integer "is_integer" (defScope s_is_integer) f cdv A outer s H E) ⟨K, OpS K, ca⟩ (fun c d _ H => E c d H) (defBody s_is_integer) t w_is_integer from let ⟨t, h⟩ := h; ⟨t, h.pe, h.sim⟩
  exact ⟨_, (db_cons (ds_if (dt_chn (dw_or (dt_not (dt_val (de_isi rfl kit_int M.f_isinstance M.f_int (dv 0)))) (dw_or (dt_val (de_isi rfl kit_bool M.f_isinstance M.f_bool (dv 0))) (dw_or1 (dt_cmp c_lt (dv 0) (dv 1)))))) (db_one (ds_ret de_bl)) db_nil)
      (db_one (ds_ret (de_or (de_cmp c_isN (dv 2) de_non) (de_one (de_cmp c_le (dv 0) (dv 2)))))))⟩
theorem d_is_name {P : Program} {w : World} {K : Fg} {mg : Str → Option Value} {base : Heap} {ca : Str → Addr} {f : Addr} (M : Ms mg)  (cdv : Value) (A : Around) (outer : List Env) (s : Shared) (H : Hp) (E : XK)
    (hr : Room 0 (A.deeper (PyProof.Rows.envOfC "is_name" (defScope s_is_name) s.heap.objs.size f cdv))) : ∃ t, PSs (cxOf (L2N.CX P w) P w K mg base N_is_name "is_name" (defScope s_is_name) f cdv A outer s H E) (defBody s_is_name) t ∧ SimS ⟨K, OpS K, ca⟩ (fun c d _ H => E c d H) t w_is_name := by
  have hu := hu65 hr
  have tk : L2N.Takes (cxOf (L2N.CX P w) P w K mg base N_is_name "is_name" (defScope s_is_name) f cdv A outer s H E) (fun c d _ H => E c d H) := L2N.takes_of rfl rfl rfl rfl
  suffices h : ∃ t, DB (cxOf (L2N.CX P w) P w K mg base N_is_name "is_name" (defScope s_is_name) f cdv A outer s H E) ⟨K, OpS K, ca⟩ (fun c d _ H => E c d H) (defBody s_is_name) t w_is_name from let ⟨t, h⟩ := h; ⟨t, h.pe, h.sim⟩
  exact ⟨_, (db_cons (ds_if (dt_chn (dw_or (dt_not (dt_val (de_isi rfl kit_str M.f_isinstance M.f_str (dv 0)))) (dw_or1 (dt_not (dt_chain c_le c_le de_int (de_b (b_len rfl) M.f_len (da_cons (dv 0) da_nil)) (de_gint M.c_MAX_NAME_LENGTH)))))) (db_one (ds_ret de_bl)) db_nil)
      (db_one (ds_ret (de_b (b_all rfl rfl) M.f_all (da_cons (de_lc (own := [("letter", 1)]) rfl sc_is_name.nd (di_str (dv 0)) (blkOk_by (N := N_is_name) (sc := defScope s_is_name) (by decide +kernel)) (by decide) (fun _ _ _ _ _ => (dgw_name 1 sc_is_name.nd)) (fun _ _ _ _ _ => dts_nil) (fun _ _ _ _ _ => (de_cmp (c_in rfl hu) (dv 1) (de_gstr M.c_LETTERS)))) da_nil)))))⟩
theorem d_is_item {P : Program} {w : World} {K : Fg} {mg : Str → Option Value} {base : Heap} {ca : Str → Addr} {f : Addr} (M : Ms mg) (g_is_integer_1 : Gd P w ⟨K, OpS K, ca⟩ mg base 1 "is_integer" fs_is_integer ["value", "low", "high"] [.non]) (g_is_name : Gd P w ⟨K, OpS K, ca⟩ mg base 1 "is_name" fs_is_name ["value"] []) (cdv : Value) (A : Around) (outer : List Env) (s : Shared) (H : Hp) (E : XK)
    (hr : Room 1 (A.deeper (PyProof.Rows.envOfC "is_item" (defScope s_is_item) s.heap.objs.size f cdv))) : ∃ t, PSs (cxOf (L2N.CX P w) P w K mg base N_is_item "is_item" (defScope s_is_item) f cdv A outer s H E) (defBody s_is_item) t ∧ SimS ⟨K, OpS K, ca⟩ (fun c d _ H => E c d H) t w_is_item := by
  have hu := hu65 hr
  have tk : L2N.Takes (cxOf (L2N.CX P w) P w K mg base N_is_item "is_item" (defScope s_is_item) f cdv A outer s H E) (fun c d _ H => E c d H) := L2N.takes_of rfl rfl rfl rfl
  suffices h : ∃ t, DB (cxOf (L2N.CX P w) P w K mg base N_is_item "is_item" (defScope s_is_item) f cdv A outer s H E) ⟨K, OpS K, ca⟩ (fun c d _ H => E c d H) (defBody s_is_item) t w_is_item from let ⟨t, h⟩ := h; ⟨t, h.pe, h.sim⟩
  exact ⟨_, (db_cons (ds_if (dt_chn (dw_or (dt_not (dt_val (de_isi rfl kit_tuple M.f_isinstance M.f_tuple (dv 0)))) (dw_or (dt_cmp (c_notin rfl hu) (de_b (b_len rfl) M.f_len (da_cons (dv 0) da_nil)) (de_tup (da_cons de_int (da_cons de_int da_nil)))) (dw_or1 (dt_not (dt_val (de_call rfl g_is_name hr tk (da_cons (de_ix rfl hu (dv 0) de_int) da_nil)))))))) (db_one (ds_ret de_bl)) db_nil)
      (db_cons (ds_if (dt_cmp (c_eq rfl hu) (de_b (b_len rfl) M.f_len (da_cons (dv 0) da_nil)) de_int) (db_one (ds_ret (de_and (de_cmp (c_eq rfl hu) (de_ix rfl hu (dv 0) de_int) (de_gstr M.c_REPEAT)) (de_and (de_cmp (c_in rfl hu) (de_ix rfl hu (dv 0) de_int) (dv 1)) (de_one (de_callD rfl g_is_integer_1 hr tk (fun _ => .cons .non (.nil)) (da_cons (de_ix rfl hu (dv 0) de_int) (da_cons de_int da_nil)))))))) db_nil)
      (db_one (ds_ret (de_or (de_cmp (c_eq rfl hu) (de_ix rfl hu (dv 0) de_int) (de_gstr M.c_BAR)) (de_one (de_and (de_cmp (c_eq rfl hu) (de_ix rfl hu (dv 0) de_int) (de_gstr M.c_MARK)) (de_one (de_cmp (c_notin rfl hu) (de_ix rfl hu (dv 0) de_int) (dv 1))))))))))⟩
theorem d_is_score {P : Program} {w : World} {K : Fg} {mg : Str → Option Value} {base : Heap} {ca : Str → Addr} {f : Addr} (M : Ms mg) (g_is_item : Gd P w ⟨K, OpS K, ca⟩ mg base 2 "is_item" fs_is_item ["value", "marks"] []) (cdv : Value) (A : Around) (outer : List Env) (s : Shared) (H : Hp) (E : XK)
    (hr : Room 2 (A.deeper (PyProof.Rows.envOfC "is_score" (defScope s_is_score) s.heap.objs.size f cdv))) : ∃ t, PSs (cxOf (L2N.CX P w) P w K mg base N_is_score "is_score" (defScope s_is_score) f cdv A outer s H E) (defBody s_is_score) t ∧ SimS ⟨K, OpS K, ca⟩ (fun c d _ H => E c d H) t w_is_scoreW := by
  have hu := hu65 hr
  have tk : L2N.Takes (cxOf (L2N.CX P w) P w K mg base N_is_score "is_score" (defScope s_is_score) f cdv A outer s H E) (fun c d _ H => E c d H) := L2N.takes_of rfl rfl rfl rfl
  suffices h : ∃ t, DB (cxOf (L2N.CX P w) P w K mg base N_is_score "is_score" (defScope s_is_score) f cdv A outer s H E) ⟨K, OpS K, ca⟩ (fun c d _ H => E c d H) (defBody s_is_score) t w_is_scoreW from let ⟨t, h⟩ := h; ⟨t, h.pe, h.sim⟩
  exact ⟨_, (db_cons (ds_if (dt_not (dt_val (de_isi rfl kit_list M.f_isinstance M.f_list (dv 0)))) (db_one (ds_ret de_bl)) db_nil)
      (db_cons (ds_set 1 sc_is_score.nd de_dict0)
      (db_cons (ds_for .leaving rfl (di_enum rfl M.f_enumerate (da_cons (dv 0) da_nil)) (dg_tup (n := 2) rfl rfl (dgs_cons (dg_name 2 sc_is_score.nd) (dgs_cons (dg_name 3 sc_is_score.nd) dgs_nil))) (db_cons (ds_if (dt_not (dt_val (de_callB rfl g_is_item hr tk (da_cons (dv 3) (da_cons (dv 1) da_nil))))) (db_one (ds_ret de_bl)) db_nil)
      (db_one (ds_if (dt_cmp (c_eq rfl hu) (de_ix rfl hu (dv 3) de_int) (de_gstr M.c_MARK)) (db_one (ds_dput hu 1 (de_ix rfl hu (dv 3) de_int) (dv 2))) db_nil))))
      (db_one (ds_ret de_bl)))))⟩
theorem d_require_score {P : Program} {w : World} {K : Fg} {mg : Str → Option Value} {base : Heap} {ca : Str → Addr} {f : Addr} (M : Ms mg) (g_is_score : Gd P w ⟨K, OpS K, ca⟩ mg base 3 "is_score" fs_is_scoreW ["value"] []) (cdv : Value) (A : Around) (outer : List Env) (s : Shared) (H : Hp) (E : XK)
    (hr : Room 3 (A.deeper (PyProof.Rows.envOfC "require_score" (defScope s_require_score) s.heap.objs.size f cdv))) : ∃ t, PSs (cxOf (L2N.CX P w) P w K mg base N_require_score "require_score" (defScope s_require_score) f cdv A outer s H E) (defBody s_require_score) t ∧ SimS ⟨K, OpS K, ca⟩ (fun c d _ H => E c d H) t w_require_scoreW := by
  have hu := hu65 hr
  have tk : L2N.Takes (cxOf (L2N.CX P w) P w K mg base N_require_score "require_score" (defScope s_require_score) f cdv A outer s H E) (fun c d _ H => E c d H) := L2N.takes_of rfl rfl rfl rfl
  suffices h : ∃ t, DB (cxOf (L2N.CX P w) P w K mg base N_require_score "require_score" (defScope s_require_score) f cdv A outer s H E) ⟨K, OpS K, ca⟩ (fun c d _ H => E c d H) (defBody s_require_score) t w_require_scoreW from let ⟨t, h⟩ := h; ⟨t, h.pe, h.sim⟩
  exact ⟨_, (db_one (ds_if (dt_not (dt_val (de_call rfl g_is_score hr tk (da_cons (dv 0) da_nil)))) (db_one ds_never) db_nil))⟩
theorem d_is_simple {P : Program} {w : World} {K : Fg} {mg : Str → Option Value} {base : Heap} {ca : Str → Addr} {f : Addr} (M : Ms mg) (g_has_simple_form : Gd P w ⟨K, OpS K, ca⟩ mg base 4 "has_simple_form" fs_has_simple_form ["score"] []) (g_require_score : Gd P w ⟨K, OpS K, ca⟩ mg base 4 "require_score" fs_require_scoreW ["score"] []) (cdv : Value) (A : Around) (outer : List Env) (s : Shared) (H : Hp) (E : XK)
    (hr : Room 4 (A.deeper (PyProof.Rows.envOfC "is_simple" (defScope s_is_simple) s.heap.objs.size f cdv))) : ∃ t, PSs (cxOf (L2N.CX P w) P w K mg base N_is_simple "is_simple" (defScope s_is_simple) f cdv A outer s H E) (defBody s_is_simple) t ∧ SimS ⟨K, OpS K, ca⟩ (fun c d _ H => E c d H) t w_is_simpleW := by
  have hu := hu65 hr
  have tk : L2N.Takes (cxOf (L2N.CX P w) P w K mg base N_is_simple "is_simple" (defScope s_is_simple) f cdv A outer s H E) (fun c d _ H => E c d H) := L2N.takes_of rfl rfl rfl rfl
  suffices h : ∃ t, DB (cxOf (L2N.CX P w) P w K mg base N_is_simple "is_simple" (defScope s_is_simple) f cdv A outer s H E) ⟨K, OpS K, ca⟩ (fun c d _ H => E c d H) (defBody s_is_simple) t w_is_simpleW from let ⟨t, h⟩ := h; ⟨t, h.pe, h.sim⟩
  exact ⟨_, (db_cons (ds_expr (de_call rfl g_require_score hr tk (da_cons (dv 0) da_nil)))
      (db_one (ds_ret (de_call rfl g_has_simple_form hr tk (da_cons (dv 0) da_nil)))))⟩
theorem d_append_repeat {P : Program} {w : World} {K : Fg} {mg : Str → Option Value} {base : Heap} {ca : Str → Addr} {f : Addr} (M : Ms mg)  (cdv : Value) (A : Around) (outer : List Env) (s : Shared) (H : Hp) (E : XK)
    (hr : Room 0 (A.deeper (PyProof.Rows.envOfC "append_repeat" (defScope s_append_repeat) s.heap.objs.size f cdv))) : ∃ t, PSs (cxOf (L2N.CX P w) P w K mg base N_append_repeat "append_repeat" (defScope s_append_repeat) f cdv A outer s H E) (defBody s_append_repeat) t ∧ SimS ⟨K, OpS K, ca⟩ (fun c d _ H => E c d H) t w_append_repeat := by
  have hu := hu65 hr
  have tk : L2N.Takes (cxOf (L2N.CX P w) P w K mg base N_append_repeat "append_repeat" (defScope s_append_repeat) f cdv A outer s H E) (fun c d _ H => E c d H) := L2N.takes_of rfl rfl rfl rfl
  suffices h : ∃ t, DB (cxOf (L2N.CX P w) P w K mg base N_append_repeat "append_repeat" (defScope s_append_repeat) f cdv A outer s H E) ⟨K, OpS K, ca⟩ (fun c d _ H => E c d H) (defBody s_append_repeat) t w_append_repeat from let ⟨t, h⟩ := h; ⟨t, h.pe, h.sim⟩
  exact ⟨_, (db_one (ds_if (dt_chn (dw_and (dt_cmp (c_ne rfl hu) (dv 0) (de_lst da_nil)) (dw_and (dt_cmp (c_eq rfl hu) (de_ix rfl hu (de_ix rfl hu (dv 0) (de_neg de_int)) de_int) (de_gstr M.c_REPEAT)) (dw_and1 (dt_cmp (c_eq rfl hu) (de_ix rfl hu (de_ix rfl hu (dv 0) (de_neg de_int)) de_int) (dv 1)))))) (db_one (ds_lput 0 (de_neg de_int) (de_tup (da_cons (de_gstr M.c_REPEAT) (da_cons (dv 1) (da_cons (de_sub (de_mul (de_add rfl (de_ix rfl hu (de_ix rfl hu (dv 0) (de_neg de_int)) de_int) de_int) (de_add rfl (dv 2) de_int)) de_int) da_nil)))))) (db_one (ds_expr (de_append rfl 0 (de_tup (da_cons (de_gstr M.c_REPEAT) (da_cons (dv 1) (da_cons (dv 2) da_nil)))))))))⟩
theorem d_normalized {P : Program} {w : World} {K : Fg} {mg : Str → Option Value} {base : Heap} {ca : Str → Addr} {f : Addr} (M : Ms mg) (g_append_repeat : Gd P w ⟨K, OpS K, ca⟩ mg base 1 "append_repeat" fs_append_repeat ["items", "name", "count"] []) (cdv : Value) (A : Around) (outer : List Env) (s : Shared) (H : Hp) (E : XK)
    (hr : Room 1 (A.deeper (PyProof.Rows.envOfC "normalized" (defScope s_normalized) s.heap.objs.size f cdv))) : ∃ t, PSs (cxOf (L2N.CX P w) P w K mg base N_normalized "normalized" (defScope s_normalized) f cdv A outer s H E) (defBody s_normalized) t ∧ SimS ⟨K, OpS K, ca⟩ (fun c d _ H => E c d H) t w_normalized := by
  have hu := hu65 hr
  have tk : L2N.Takes (cxOf (L2N.CX P w) P w K mg base N_normalized "normalized" (defScope s_normalized) f cdv A outer s H E) (fun c d _ H => E c d H) := L2N.takes_of rfl rfl rfl rfl
  suffices h : ∃ t, DB (cxOf (L2N.CX P w) P w K mg base N_normalized "normalized" (defScope s_normalized) f cdv A outer s H E) ⟨K, OpS K, ca⟩ (fun c d _ H => E c d H) (defBody s_normalized) t w_normalized from let ⟨t, h⟩ := h; ⟨t, h.pe, h.sim⟩
  exact ⟨_, (db_cons (ds_set 1 sc_normalized.nd (de_dc (own := [("item", 5)]) rfl sc_normalized.nd (di_list rfl (dv 0)) (blkOk_by (N := N_normalized) (sc := defScope s_normalized) (by decide +kernel)) (by decide) (fun _ _ _ _ _ => (dgw_name 5 sc_normalized.nd)) (fun _ _ _ _ _ => (dts_one (dt_cmp (c_eq rfl hu) (de_ix rfl hu (dv 5) de_int) (de_gstr M.c_REPEAT)))) (fun _ _ _ _ _ => (de_ix rfl hu (dv 5) de_int)) (fun _ _ _ _ _ => de_bl)))
      (db_cons (ds_set 2 sc_normalized.nd (de_lst da_nil))
      (db_cons (ds_par 3 4 rfl sc_normalized.nd (dl_cons de_dict0 (dl_cons (de_lst da_nil) dl_nil)))
      (db_cons (ds_for .leaving rfl (di_list rfl (dv 0)) (dg_name 5 sc_normalized.nd) (db_one (ds_if (dt_cmp (c_eq rfl hu) (de_ix rfl hu (dv 5) de_int) (de_gstr M.c_MARK)) (db_one (ds_expr (de_append rfl 4 (de_ix rfl hu (dv 5) de_int)))) (db_one (ds_if (dt_cmp (c_eq rfl hu) (de_ix rfl hu (dv 5) de_int) (de_gstr M.c_BAR)) (db_cons (ds_expr (de_dupd 3 (de_dc (own := [("name", 6)]) rfl sc_normalized.nd (di_list rfl (dv 4)) (blkOk_by (N := N_normalized) (sc := defScope s_normalized) (by decide +kernel)) (by decide) (fun _ _ _ _ _ => (dgw_name 6 sc_normalized.nd)) (fun _ _ _ _ _ => dts_nil) (fun _ _ _ _ _ => (dv 6)) (fun _ _ _ _ _ => (de_ix rfl hu (dv 5) de_int)))))
      (db_cons (ds_if (dt_val (de_b (b_any rfl rfl) M.f_any (da_cons (de_lc (own := [("name", 6)]) rfl sc_normalized.nd (di_list rfl (dv 4)) (blkOk_by (N := N_normalized) (sc := defScope s_normalized) (by decide +kernel)) (by decide) (fun _ _ _ _ _ => (dgw_name 6 sc_normalized.nd)) (fun _ _ _ _ _ => dts_nil) (fun _ _ _ _ _ => (de_cmp (c_in rfl hu) (dv 6) (dv 1)))) da_nil))) (db_one (ds_expr (de_append rfl 2 (de_tup (da_cons (de_gstr M.c_MARK) (da_cons (de_ix rfl hu (dv 5) de_int) da_nil)))))) db_nil)
      (db_cons (ds_set 4 sc_normalized.nd (de_lst da_nil))
      (db_one (ds_expr (de_append rfl 2 (dv 5))))))) (db_one (ds_expr (de_callIo rfl 2 g_append_repeat hr tk (da_cons (de_ix rfl hu (dv 3) (de_ix rfl hu (dv 5) de_int)) (da_cons (de_ix rfl hu (dv 5) de_int) da_nil))))))))))
      (db_one (ds_ret (dv 2)))))))⟩
theorem d_require_simple {P : Program} {w : World} {K : Fg} {mg : Str → Option Value} {base : Heap} {ca : Str → Addr} {f : Addr} (M : Ms mg) (g_has_simple_form : Gd P w ⟨K, OpS K, ca⟩ mg base 4 "has_simple_form" fs_has_simple_form ["score"] []) (g_require_score : Gd P w ⟨K, OpS K, ca⟩ mg base 4 "require_score" fs_require_scoreW ["score"] []) (cdv : Value) (A : Around) (outer : List Env) (s : Shared) (H : Hp) (E : XK)
    (hr : Room 4 (A.deeper (PyProof.Rows.envOfC "require_simple" (defScope s_require_simple) s.heap.objs.size f cdv))) : ∃ t, PSs (cxOf (L2N.CX P w) P w K mg base N_require_simple "require_simple" (defScope s_require_simple) f cdv A outer s H E) (defBody s_require_simple) t ∧ SimS ⟨K, OpS K, ca⟩ (fun c d _ H => E c d H) t w_require_simpleW := by
  have hu := hu65 hr
  have tk : L2N.Takes (cxOf (L2N.CX P w) P w K mg base N_require_simple "require_simple" (defScope s_require_simple) f cdv A outer s H E) (fun c d _ H => E c d H) := L2N.takes_of rfl rfl rfl rfl
  suffices h : ∃ t, DB (cxOf (L2N.CX P w) P w K mg base N_require_simple "require_simple" (defScope s_require_simple) f cdv A outer s H E) ⟨K, OpS K, ca⟩ (fun c d _ H => E c d H) (defBody s_require_simple) t w_require_simpleW from let ⟨t, h⟩ := h; ⟨t, h.pe, h.sim⟩
  exact ⟨_, (db_cons (ds_expr (de_call rfl g_require_score hr tk (da_cons (dv 0) da_nil)))
      (db_one (ds_if (dt_not (dt_val (de_call rfl g_has_simple_form hr tk (da_cons (dv 0) da_nil)))) (db_one ds_never) db_nil)))⟩
theorem d_normal_form {P : Program} {w : World} {K : Fg} {mg : Str → Option Value} {base : Heap} {ca : Str → Addr} {f : Addr} (M : Ms mg) (g_normalized : Gd P w ⟨K, OpS K, ca⟩ mg base 5 "normalized" fs_normalized ["score"] []) (g_require_simple : Gd P w ⟨K, OpS K, ca⟩ mg base 5 "require_simple" fs_require_simpleW ["score"] []) (cdv : Value) (A : Around) (outer : List Env) (s : Shared) (H : Hp) (E : XK)
    (hr : Room 5 (A.deeper (PyProof.Rows.envOfC "normal_form" (defScope s_normal_form) s.heap.objs.size f cdv))) : ∃ t, PSs (cxOf (L2N.CX P w) P w K mg base N_normal_form "normal_form" (defScope s_normal_form) f cdv A outer s H E) (defBody s_normal_form) t ∧ SimS ⟨K, OpS K, ca⟩ (fun c d _ H => E c d H) t w_normal_formW := by
  have hu := hu65 hr
  have tk : L2N.Takes (cxOf (L2N.CX P w) P w K mg base N_normal_form "normal_form" (defScope s_normal_form) f cdv A outer s H E) (fun c d _ H => E c d H) := L2N.takes_of rfl rfl rfl rfl
  suffices h : ∃ t, DB (cxOf (L2N.CX P w) P w K mg base N_normal_form "normal_form" (defScope s_normal_form) f cdv A outer s H E) ⟨K, OpS K, ca⟩ (fun c d _ H => E c d H) (defBody s_normal_form) t w_normal_formW from let ⟨t, h⟩ := h; ⟨t, h.pe, h.sim⟩
  exact ⟨_, (db_cons (ds_expr (de_call rfl g_require_simple hr tk (da_cons (dv 0) da_nil)))
      (db_one (ds_ret (de_call rfl g_normalized hr tk (da_cons (dv 0) da_nil)))))⟩
theorem d_mark_indices {P : Program} {w : World} {K : Fg} {mg : Str → Option Value} {base : Heap} {ca : Str → Addr} {f : Addr} (M : Ms mg)  (cdv : Value) (A : Around) (outer : List Env) (s : Shared) (H : Hp) (E : XK)
    (hr : Room 0 (A.deeper (PyProof.Rows.envOfC "mark_indices" (defScope s_mark_indices) s.heap.objs.size f cdv))) : ∃ t, PSs (cxOf (L2N.CX P w) P w K mg base N_mark_indices "mark_indices" (defScope s_mark_indices) f cdv A outer s H E) (defBody s_mark_indices) t ∧ SimS ⟨K, OpS K, ca⟩ (fun c d _ H => E c d H) t w_mark_indicesW := by
  have hu := hu65 hr
  have tk : L2N.Takes (cxOf (L2N.CX P w) P w K mg base N_mark_indices "mark_indices" (defScope s_mark_indices) f cdv A outer s H E) (fun c d _ H => E c d H) := L2N.takes_of rfl rfl rfl rfl
  suffices h : ∃ t, DB (cxOf (L2N.CX P w) P w K mg base N_mark_indices "mark_indices" (defScope s_mark_indices) f cdv A outer s H E) ⟨K, OpS K, ca⟩ (fun c d _ H => E c d H) (defBody s_mark_indices) t w_mark_indicesW from let ⟨t, h⟩ := h; ⟨t, h.pe, h.sim⟩
  exact ⟨_, (db_one (ds_ret (de_dc (own := [("index", 1), ("item", 2)]) rfl sc_mark_indices.nd (di_enum rfl M.f_enumerate (da_cons (dv 0) da_nil)) (blkOk_by (N := N_mark_indices) (sc := defScope s_mark_indices) (by decide +kernel)) (by decide) (fun _ _ _ _ _ => (dgw_tup (n := 2) rfl rfl (dgsw_cons (dgw_name 1 sc_mark_indices.nd) (dgsw_cons (dgw_name 2 sc_mark_indices.nd) dgsw_nil)))) (fun _ _ _ _ _ => (dts_one (dt_cmp (c_eq rfl hu) (de_ix rfl hu (dv 2) de_int) (de_gstr M.c_MARK)))) (fun _ _ _ _ _ => (de_ix rfl hu (dv 2) de_int)) (fun _ _ _ _ _ => (dv 1)))))⟩
theorem d_segment_starts {P : Program} {w : World} {K : Fg} {mg : Str → Option Value} {base : Heap} {ca : Str → Addr} {f : Addr} (M : Ms mg) (g_mark_indices : Gd P w ⟨K, OpS K, ca⟩ mg base 1 "mark_indices" fs_mark_indicesW ["score"] []) (cdv : Value) (A : Around) (outer : List Env) (s : Shared) (H : Hp) (E : XK)
    (hr : Room 1 (A.deeper (PyProof.Rows.envOfC "segment_starts" (defScope s_segment_starts) s.heap.objs.size f cdv))) : ∃ t, PSs (cxOf (L2N.CX P w) P w K mg base N_segment_starts "segment_starts" (defScope s_segment_starts) f cdv A outer s H E) (defBody s_segment_starts) t ∧ SimS ⟨K, OpS K, ca⟩ (fun c d _ H => E c d H) t w_segment_startsW := by
  have hu := hu65 hr
  have tk : L2N.Takes (cxOf (L2N.CX P w) P w K mg base N_segment_starts "segment_starts" (defScope s_segment_starts) f cdv A outer s H E) (fun c d _ H => E c d H) := L2N.takes_of rfl rfl rfl rfl
  suffices h : ∃ t, DB (cxOf (L2N.CX P w) P w K mg base N_segment_starts "segment_starts" (defScope s_segment_starts) f cdv A outer s H E) ⟨K, OpS K, ca⟩ (fun c d _ H => E c d H) (defBody s_segment_starts) t w_segment_startsW from let ⟨t, h⟩ := h; ⟨t, h.pe, h.sim⟩
  exact ⟨_, (db_cons (ds_set 1 sc_segment_starts.nd (de_call rfl g_mark_indices hr tk (da_cons (dv 0) da_nil)))
      (db_one (ds_ret (de_dc (own := [("index", 2), ("item", 3)]) rfl sc_segment_starts.nd (di_enum rfl M.f_enumerate (da_cons (dv 0) da_nil)) (blkOk_by (N := N_segment_starts) (sc := defScope s_segment_starts) (by decide +kernel)) (by decide) (fun _ _ _ _ _ => (dgw_tup (n := 2) rfl rfl (dgsw_cons (dgw_name 2 sc_segment_starts.nd) (dgsw_cons (dgw_name 3 sc_segment_starts.nd) dgsw_nil)))) (fun _ _ _ _ _ => (dts_one (dt_cmp (c_eq rfl hu) (de_ix rfl hu (dv 3) de_int) (de_gstr M.c_REPEAT)))) (fun _ _ _ _ _ => (dv 2)) (fun _ _ _ _ _ => (de_add rfl (de_ix rfl hu (dv 1) (de_ix rfl hu (dv 3) de_int)) de_int))))))⟩
theorem d_arrival_times {P : Program} {w : World} {K : Fg} {mg : Str → Option Value} {base : Heap} {ca : Str → Addr} {f : Addr} (M : Ms mg) (g_segment_starts : Gd P w ⟨K, OpS K, ca⟩ mg base 2 "segment_starts" fs_segment_startsW ["score"] []) (cdv : Value) (A : Around) (outer : List Env) (s : Shared) (H : Hp) (E : XK)
    (hr : Room 2 (A.deeper (PyProof.Rows.envOfC "arrival_times" (defScope s_arrival_times) s.heap.objs.size f cdv))) : ∃ t, PSs (cxOf (L2N.CX P w) P w K mg base N_arrival_times "arrival_times" (defScope s_arrival_times) f cdv A outer s H E) (defBody s_arrival_times) t ∧ SimS ⟨K, OpS K, ca⟩ (fun c d _ H => E c d H) t w_arrival_timesW := by
  have hu := hu65 hr
  have tk : L2N.Takes (cxOf (L2N.CX P w) P w K mg base N_arrival_times "arrival_times" (defScope s_arrival_times) f cdv A outer s H E) (fun c d _ H => E c d H) := L2N.takes_of rfl rfl rfl rfl
  suffices h : ∃ t, DB (cxOf (L2N.CX P w) P w K mg base N_arrival_times "arrival_times" (defScope s_arrival_times) f cdv A outer s H E) ⟨K, OpS K, ca⟩ (fun c d _ H => E c d H) (defBody s_arrival_times) t w_arrival_timesW from let ⟨t, h⟩ := h; ⟨t, h.pe, h.sim⟩
  exact ⟨_, (db_cons (ds_set 1 sc_arrival_times.nd (de_call rfl g_segment_starts hr tk (da_cons (dv 0) da_nil)))
      (db_cons (ds_set 2 sc_arrival_times.nd (de_lst (da_cons de_int da_nil)))
      (db_cons (ds_for .leaving rfl (di_enum rfl M.f_enumerate (da_cons (dv 0) da_nil)) (dg_tup (n := 2) rfl rfl (dgs_cons (dg_name 3 sc_arrival_times.nd) (dgs_cons (dg_name 4 sc_arrival_times.nd) dgs_nil))) (db_cons (ds_set 5 sc_arrival_times.nd (de_ix rfl hu (dv 2) (de_neg de_int)))
      (db_one (ds_if (dt_cmp (c_eq rfl hu) (de_ix rfl hu (dv 4) de_int) (de_gstr M.c_REPEAT)) (db_one (ds_expr (de_append rfl 2 (de_add rfl (dv 5) (de_mul (de_ix rfl hu (dv 4) de_int) (de_sub (dv 5) (de_ix rfl hu (dv 2) (de_ix rfl hu (dv 1) (dv 3))))))))) (db_one (ds_expr (de_append rfl 2 (de_add rfl (dv 5) (de_t (t_int) M.f_int (da_cons (de_cmp (c_eq rfl hu) (de_ix rfl hu (dv 4) de_int) (de_gstr M.c_BAR)) da_nil))))))))))
      (db_one (ds_ret (dv 2))))))⟩
theorem d_length_of {P : Program} {w : World} {K : Fg} {mg : Str → Option Value} {base : Heap} {ca : Str → Addr} {f : Addr} (M : Ms mg) (g_arrival_times : Gd P w ⟨K, OpS K, ca⟩ mg base 3 "arrival_times" fs_arrival_timesW ["score"] []) (cdv : Value) (A : Around) (outer : List Env) (s : Shared) (H : Hp) (E : XK)
    (hr : Room 3 (A.deeper (PyProof.Rows.envOfC "length_of" (defScope s_length_of) s.heap.objs.size f cdv))) : ∃ t, PSs (cxOf (L2N.CX P w) P w K mg base N_length_of "length_of" (defScope s_length_of) f cdv A outer s H E) (defBody s_length_of) t ∧ SimS ⟨K, OpS K, ca⟩ (fun c d _ H => E c d H) t w_length_ofW := by
  have hu := hu65 hr
  have tk : L2N.Takes (cxOf (L2N.CX P w) P w K mg base N_length_of "length_of" (defScope s_length_of) f cdv A outer s H E) (fun c d _ H => E c d H) := L2N.takes_of rfl rfl rfl rfl
  suffices h : ∃ t, DB (cxOf (L2N.CX P w) P w K mg base N_length_of "length_of" (defScope s_length_of) f cdv A outer s H E) ⟨K, OpS K, ca⟩ (fun c d _ H => E c d H) (defBody s_length_of) t w_length_ofW from let ⟨t, h⟩ := h; ⟨t, h.pe, h.sim⟩
  exact ⟨_, (db_one (ds_ret (de_ix rfl hu (de_call rfl g_arrival_times hr tk (da_cons (dv 0) da_nil)) (de_neg de_int))))⟩
theorem d_total_length {P : Program} {w : World} {K : Fg} {mg : Str → Option Value} {base : Heap} {ca : Str → Addr} {f : Addr} (M : Ms mg) (g_length_of : Gd P w ⟨K, OpS K, ca⟩ mg base 4 "length_of" fs_length_ofW ["score"] []) (g_require_score : Gd P w ⟨K, OpS K, ca⟩ mg base 4 "require_score" fs_require_scoreW ["score"] []) (cdv : Value) (A : Around) (outer : List Env) (s : Shared) (H : Hp) (E : XK)
    (hr : Room 4 (A.deeper (PyProof.Rows.envOfC "total_length" (defScope s_total_length) s.heap.objs.size f cdv))) : ∃ t, PSs (cxOf (L2N.CX P w) P w K mg base N_total_length "total_length" (defScope s_total_length) f cdv A outer s H E) (defBody s_total_length) t ∧ SimS ⟨K, OpS K, ca⟩ (fun c d _ H => E c d H) t w_total_lengthW := by
  have hu := hu65 hr
  have tk : L2N.Takes (cxOf (L2N.CX P w) P w K mg base N_total_length "total_length" (defScope s_total_length) f cdv A outer s H E) (fun c d _ H => E c d H) := L2N.takes_of rfl rfl rfl rfl
  suffices h : ∃ t, DB (cxOf (L2N.CX P w) P w K mg base N_total_length "total_length" (defScope s_total_length) f cdv A outer s H E) ⟨K, OpS K, ca⟩ (fun c d _ H => E c d H) (defBody s_total_length) t w_total_lengthW from let ⟨t, h⟩ := h; ⟨t, h.pe, h.sim⟩
  exact ⟨_, (db_cons (ds_expr (de_call rfl g_require_score hr tk (da_cons (dv 0) da_nil)))
      (db_one (ds_ret (de_call rfl g_length_of hr tk (da_cons (dv 0) da_nil)))))⟩
theorem d_law {P : Program} {w : World} {K : Fg} {mg : Str → Option Value} {base : Heap} {ca : Str → Addr} {f : Addr} (M : Ms mg) (g_law_deck : Gd P w ⟨K, OpS K, ca⟩ mg base 6 "_law_deck" fs_law_deck ["_law_script"] []) (g_law_draw : Gd P w ⟨K, OpS K, ca⟩ mg base 6 "_law_draw" fs_law_drawX ["_law_deck_here", "_law_many"] []) (g_law_normal : Gd P w ⟨K, OpS K, ca⟩ mg base 6 "_law_normal" fs_law_normal ["_law_items"] []) (g_law_same : Gd P w ⟨K, OpS K, ca⟩ mg base 6 "_law_same" fs_law_same ["_law_found", "_law_due"] []) (g_law_simple : Gd P w ⟨K, OpS K, ca⟩ mg base 6 "_law_simple" fs_law_simpleE ["_law_deck_here", "_law_most", "_law_wide"] []) (g_law_times : Gd P w ⟨K, OpS K, ca⟩ mg base 6 "_law_times" fs_law_timesW ["_law_items"] []) (g_is_simple : Gd P w ⟨K, OpS K, ca⟩ mg base 6 "is_simple" fs_is_simpleW ["score"] []) (g_normal_form : Gd P w ⟨K, OpS K, ca⟩ mg base 6 "normal_form" fs_normal_formW ["score"] []) (g_total_length : Gd P w ⟨K, OpS K, ca⟩ mg base 6 "total_length" fs_total_lengthW ["score"] []) (k_normal_form : GdK P w ⟨K, OpS K, ca⟩ mg base 6 "normal_form" fs_normal_formW ["score"] ["score"] [0]) (cdv : Value) (s : Shared) (H : Hp) (E : XK)
    (hr : Room 6 (callerA.deeper (PyProof.Rows.envOfC "law" (defScope s_law) s.heap.objs.size f cdv))) : ∃ t, PSs (cxOf (L2N.CX P w) P w K mg base N_law "law" (defScope s_law) f cdv callerA [] s H E) (defBody s_law) t ∧ SimS ⟨K, OpS K, ca⟩ (fun c d _ H => E c d H) t w_law := by
  have hu := hu65 hr
  have hgd : (cxOf (L2N.CX P w) P w K mg base N_law "law" (defScope s_law) f cdv callerA [] s H E).A.guards = some [] := rfl
  have tk : L2N.Takes (cxOf (L2N.CX P w) P w K mg base N_law "law" (defScope s_law) f cdv callerA [] s H E) (fun c d _ H => E c d H) := L2N.takes_of rfl rfl rfl rfl
  suffices h : ∃ t, DB (cxOf (L2N.CX P w) P w K mg base N_law "law" (defScope s_law) f cdv callerA [] s H E) ⟨K, OpS K, ca⟩ (fun c d _ H => E c d H) (defBody s_law) t w_law from let ⟨t, h⟩ := h; ⟨t, h.pe, h.sim⟩
  exact ⟨_, (db_cons (ds_deck 1 0 rfl sc_law.nd g_law_deck hr tk)
      (db_cons (ds_for .leaving rfl (di_range1 M.f_range (da_cons de_int da_nil)) (dg_name 2 sc_law.nd) (db_cons (ds_set 3 sc_law.nd (de_callIo rfl 1 g_law_simple hr tk (da_cons (de_ix rfl hu (de_lst (da_cons de_int (da_cons de_int (da_cons de_int (da_cons de_int da_nil))))) (de_callIo rfl 1 g_law_draw hr tk (da_cons de_int da_nil))) (da_cons (de_sub (de_pow de_int de_int) de_int) da_nil))))
      (db_cons (pg_names (is := [4, 5]) rfl rfl (dl_cons (de_b (b_repr rfl hgd hu) M.f_repr (da_cons (dv 3) da_nil)) (dl_cons (de_call rfl g_law_normal hr tk (da_cons (dv 3) da_nil)) dl_nil)) (pgs_cons (pg_name (i := 4) sc_law.nd rfl (by first | exact .inl rfl | exact .inr rfl)) (pgs_cons (pg_name (i := 5) sc_law.nd rfl (by first | exact .inl rfl | exact .inr rfl)) pgs_nil)) rfl (by decide))
      (db_cons (ds_set 6 sc_law.nd (de_call rfl g_normal_form hr tk (da_cons (dv 3) da_nil)))
      (db_cons (ds_if (dt_chn (dw_or (dt_not (dt_val (de_fz (de_call rfl g_law_same hr tk (da_cons (dv 6) (da_cons (dv 5) da_nil)))))) (dw_or (dt_not (dt_val (de_fz (de_call rfl g_is_simple hr tk (da_cons (dv 6) da_nil))))) (dw_or1 (dt_not (dt_val (de_fz (de_call rfl g_law_same hr tk (da_cons (de_call rfl g_normal_form hr tk (da_cons (dv 6) da_nil)) (da_cons (dv 5) da_nil)))))))))) (db_one (ds_ret de_bl)) db_nil)
      (db_cons (pg_names (is := [7, 8]) rfl rfl (dl_cons (de_call rfl g_law_times hr tk (da_cons (dv 3) da_nil)) (dl_cons (de_call rfl g_law_times hr tk (da_cons (dv 5) da_nil)) dl_nil)) (pgs_cons (pg_name (i := 7) sc_law.nd rfl (by first | exact .inl rfl | exact .inr rfl)) (pgs_cons (pg_name (i := 8) sc_law.nd rfl (by first | exact .inl rfl | exact .inr rfl)) pgs_nil)) rfl (by decide))
      (db_cons (ds_setLc 9 (own := [("_law_k", 10)]) rfl sc_law.nd (di_range1 M.f_range (da_cons (de_b (b_len rfl) M.f_len (da_cons (dv 3) da_nil)) da_nil)) (blkOk_by (N := N_law) (sc := defScope s_law) (by decide +kernel)) (by decide) (fun _ _ _ _ _ => (dgw_name 10 sc_law.nd)) (fun _ _ _ _ _ => (dts_one (dt_cmp (c_eq rfl hu) (de_ix rfl hu (de_ix rfl hu (dv 3) (dv 10)) de_int) de_str))) (fun _ _ _ _ _ => (de_ix rfl hu (dv 7) (dv 10))) (sw_true rfl rfl rfl (by decide +kernel)))
      (db_cons (ds_if (dt_chn (dw_or (dt_cmp (c_ne rfl hu) (de_lc (own := [("_law_k", 10)]) rfl sc_law.nd (di_range1 M.f_range (da_cons (de_b (b_len rfl) M.f_len (da_cons (dv 5) da_nil)) da_nil)) (blkOk_by (N := N_law) (sc := defScope s_law) (by decide +kernel)) (by decide) (fun _ _ _ _ _ => (dgw_name 10 sc_law.nd)) (fun _ _ _ _ _ => (dts_one (dt_cmp (c_eq rfl hu) (de_ix rfl hu (de_ix rfl hu (dv 5) (dv 10)) de_int) de_str))) (fun _ _ _ _ _ => (de_ix rfl hu (dv 8) (dv 10)))) (dv 9)) (dw_or1 (dt_cmp (c_ne rfl hu) (de_fz (de_call rfl g_total_length hr tk (da_cons (dv 6) da_nil))) (de_ix rfl hu (dv 7) (de_neg de_int)))))) (db_one (ds_ret de_bl)) db_nil)
      (db_cons (ds_expr (de_append rfl 6 de_non))
      (db_one (ds_if (dt_chn (dw_or (dt_not (dt_val (de_fz (de_call rfl g_law_same hr tk (da_cons (de_callKw rfl k_normal_form hr tk (dk_cons (dv 3) dk_nil)) (da_cons (dv 5) da_nil)))))) (dw_or1 (dt_cmp c_neS (de_b (b_repr rfl hgd hu) M.f_repr (da_cons (dv 3) da_nil)) (dv 4))))) (db_one (ds_ret de_bl)) db_nil)))))))))))
      (db_one (ds_ret (de_and (de_cmp (c_eq rfl hu) (de_call rfl g_normal_form hr tk (da_cons (de_lst da_nil) da_nil)) (de_lst da_nil)) (de_one (de_cmp (c_eq rfl hu) (de_call rfl g_normal_form hr tk (da_cons (de_lst (da_cons (de_tup (da_cons de_str (da_cons de_str da_nil))) da_nil)) da_nil)) (de_lst da_nil))))))))⟩
end K19

set_option Elab.async false
set_option linter.all false
set_option maxRecDepth 100000
set_option maxHeartbeats 2000000
namespace VL
open PySem L2 PyProof.Rows
section
variable {P : Program} {w : World} {K : Fg} {mg mb : Str → Option Value}
end
end VL

set_option Elab.async false
set_option linter.all false
set_option maxRecDepth 100000
set_option maxHeartbeats 0
namespace L2
open PySem PySem.Spec PyProof.Rows
theorem FunD.bindsKw {K : PySem.W.Frag} {x qual : Str} {params : Arguments} {body : List Stmt} {scope : Scope} {kws : List (Str × V)} {f : Addr} {fd : FuncData} {ps ks : List Str} {is : List Nat} (F : FunD K x qual params body scope [] kws f fd)
    (h : ∀ (kV doc pm : Value) (an : Option Addr) (cdv ct : Value) (ws : List Value), ws.length = ks.length → bindArgs (PySem.W.fnOf x qual params body scope .none kV doc pm an cdv ct) ⟨[], ks.zip ws⟩ = pure (ps.zip (VL.reord is ws))) (s : Shared) (ws : List Value) (hl : ws.length = ks.length) : BindsTo s fd ⟨[], ks.zip ws⟩ (ps.zip (VL.reord is ws)) := by
  obtain ⟨oc, od, dV, kV, doc, pm, an, cdv, ct, osl, rfl, lk, hcd, hD, hK⟩ := F.ex
  rcases hD with ⟨_, rfl⟩ | ⟨e, _⟩
  · exact .of_eq (h kV doc pm an cdv ct ws hl)
  · exact absurd rfl e
end L2

set_option Elab.async false
set_option linter.all false
set_option maxRecDepth 100000
set_option maxHeartbeats 400000
set_option maxHeartbeats 0
namespace K19
open PySem L2 VL SC
theorem l_law_deck : FnL fs_law_deck 1 := by
  intro io ds Q X h
  repeat (first | (obtain ⟨rfl, h⟩ := h) | (obtain ⟨_, h⟩ := h))
  all_goals first | rfl | (rename_i h; (repeat (first | (obtain ⟨rfl, h⟩ := h) | (obtain ⟨_, h⟩ := h))); all_goals rfl)
theorem l_law_draw : FnL fs_law_drawX 2 := by
  intro io ds Q X h
  repeat (first | (obtain ⟨rfl, h⟩ := h) | (obtain ⟨_, h⟩ := h))
  all_goals first | rfl | (rename_i h; (repeat (first | (obtain ⟨rfl, h⟩ := h) | (obtain ⟨_, h⟩ := h))); all_goals rfl)
theorem l_law_normal : FnL fs_law_normal 1 := by
  intro io ds Q X h
  repeat (first | (obtain ⟨rfl, h⟩ := h) | (obtain ⟨_, h⟩ := h))
  all_goals first | rfl | (rename_i h; (repeat (first | (obtain ⟨rfl, h⟩ := h) | (obtain ⟨_, h⟩ := h))); all_goals rfl)
theorem l_law_mark_names : FnL fs_law_mark_names 0 := by
  intro io ds Q X h
  repeat (first | (obtain ⟨rfl, h⟩ := h) | (obtain ⟨_, h⟩ := h))
  all_goals first | rfl | (rename_i h; (repeat (first | (obtain ⟨rfl, h⟩ := h) | (obtain ⟨_, h⟩ := h))); all_goals rfl)
theorem l_law_mixed : FnL fs_law_mixed 2 := by
  intro io ds Q X h
  repeat (first | (obtain ⟨rfl, h⟩ := h) | (obtain ⟨_, h⟩ := h))
  all_goals first | rfl | (rename_i h; (repeat (first | (obtain ⟨rfl, h⟩ := h) | (obtain ⟨_, h⟩ := h))); all_goals rfl)
theorem l_law_simple : FnL fs_law_simpleE 3 := by
  intro io ds Q X h
  repeat (first | (obtain ⟨rfl, h⟩ := h) | (obtain ⟨_, h⟩ := h))
  all_goals first | rfl | (rename_i h; (repeat (first | (obtain ⟨rfl, h⟩ := h) | (obtain ⟨_, h⟩ := h))); all_goals rfl)
theorem l_law_starts : FnL fs_law_startsW 1 := by
  intro io ds Q X h
  repeat (first | (obtain ⟨rfl, h⟩ := h) | (obtain ⟨_, h⟩ := h))
  all_goals first | rfl | (rename_i h; (repeat (first | (obtain ⟨rfl, h⟩ := h) | (obtain ⟨_, h⟩ := h))); all_goals rfl)
theorem l_law_times : FnL fs_law_timesW 1 := by
  intro io ds Q X h
  repeat (first | (obtain ⟨rfl, h⟩ := h) | (obtain ⟨_, h⟩ := h))
  all_goals first | rfl | (rename_i h; (repeat (first | (obtain ⟨rfl, h⟩ := h) | (obtain ⟨_, h⟩ := h))); all_goals rfl)
theorem l_has_simple_form : FnL fs_has_simple_form 1 := by
  intro io ds Q X h
  repeat (first | (obtain ⟨rfl, h⟩ := h) | (obtain ⟨_, h⟩ := h))
  all_goals first | rfl | (rename_i h; (repeat (first | (obtain ⟨rfl, h⟩ := h) | (obtain ⟨_, h⟩ := h))); all_goals rfl)
theorem l_is_integer : FnL fs_is_integer 3 := by
  intro io ds Q X h
  repeat (first | (obtain ⟨rfl, h⟩ := h) | (obtain ⟨_, h⟩ := h))
  all_goals first | rfl | (rename_i h; (repeat (first | (obtain ⟨rfl, h⟩ := h) | (obtain ⟨_, h⟩ := h))); all_goals rfl)
theorem l_is_name : FnL fs_is_name 1 := by
  intro io ds Q X h
  repeat (first | (obtain ⟨rfl, h⟩ := h) | (obtain ⟨_, h⟩ := h))
  all_goals first | rfl | (rename_i h; (repeat (first | (obtain ⟨rfl, h⟩ := h) | (obtain ⟨_, h⟩ := h))); all_goals rfl)
theorem l_is_item : FnL fs_is_item 2 := by
  intro io ds Q X h
  repeat (first | (obtain ⟨rfl, h⟩ := h) | (obtain ⟨_, h⟩ := h))
  all_goals first | rfl | (rename_i h; (repeat (first | (obtain ⟨rfl, h⟩ := h) | (obtain ⟨_, h⟩ := h))); all_goals rfl)
theorem l_is_score : FnL fs_is_scoreW 1 := by
  intro io ds Q X h
  repeat (first | (obtain ⟨rfl, h⟩ := h) | (obtain ⟨_, h⟩ := h))
  all_goals first | rfl | (rename_i h; (repeat (first | (obtain ⟨rfl, h⟩ := h) | (obtain ⟨_, h⟩ := h))); all_goals rfl)
theorem l_require_score : FnL fs_require_scoreW 1 := by
  intro io ds Q X h
  repeat (first | (obtain ⟨rfl, h⟩ := h) | (obtain ⟨_, h⟩ := h))
  all_goals first | rfl | (rename_i h; (repeat (first | (obtain ⟨rfl, h⟩ := h) | (obtain ⟨_, h⟩ := h))); all_goals rfl)
theorem l_is_simple : FnL fs_is_simpleW 1 := by
  intro io ds Q X h
  repeat (first | (obtain ⟨rfl, h⟩ := h) | (obtain ⟨_, h⟩ := h))
  all_goals first | rfl | (rename_i h; (repeat (first | (obtain ⟨rfl, h⟩ := h) | (obtain ⟨_, h⟩ := h))); all_goals rfl)
theorem l_append_repeat : FnL fs_append_repeat 3 := by
  intro io ds Q X h
  repeat (first | (obtain ⟨rfl, h⟩ := h) | (obtain ⟨_, h⟩ := h))
  all_goals first | rfl | (rename_i h; (repeat (first | (obtain ⟨rfl, h⟩ := h) | (obtain ⟨_, h⟩ := h))); all_goals rfl)
theorem l_normalized : FnL fs_normalized 1 := by
  intro io ds Q X h
  repeat (first | (obtain ⟨rfl, h⟩ := h) | (obtain ⟨_, h⟩ := h))
  all_goals first | rfl | (rename_i h; (repeat (first | (obtain ⟨rfl, h⟩ := h) | (obtain ⟨_, h⟩ := h))); all_goals rfl)
theorem l_require_simple : FnL fs_require_simpleW 1 := by
  intro io ds Q X h
  repeat (first | (obtain ⟨rfl, h⟩ := h) | (obtain ⟨_, h⟩ := h))
  all_goals first | rfl | (rename_i h; (repeat (first | (obtain ⟨rfl, h⟩ := h) | (obtain ⟨_, h⟩ := h))); all_goals rfl)
theorem l_normal_form : FnL fs_normal_formW 1 := by
  intro io ds Q X h
  repeat (first | (obtain ⟨rfl, h⟩ := h) | (obtain ⟨_, h⟩ := h))
  all_goals first | rfl | (rename_i h; (repeat (first | (obtain ⟨rfl, h⟩ := h) | (obtain ⟨_, h⟩ := h))); all_goals rfl)
theorem l_mark_indices : FnL fs_mark_indicesW 1 := by
  intro io ds Q X h
  repeat (first | (obtain ⟨rfl, h⟩ := h) | (obtain ⟨_, h⟩ := h))
  all_goals first | rfl | (rename_i h; (repeat (first | (obtain ⟨rfl, h⟩ := h) | (obtain ⟨_, h⟩ := h))); all_goals rfl)
theorem l_segment_starts : FnL fs_segment_startsW 1 := by
  intro io ds Q X h
  repeat (first | (obtain ⟨rfl, h⟩ := h) | (obtain ⟨_, h⟩ := h))
  all_goals first | rfl | (rename_i h; (repeat (first | (obtain ⟨rfl, h⟩ := h) | (obtain ⟨_, h⟩ := h))); all_goals rfl)
theorem l_arrival_times : FnL fs_arrival_timesW 1 := by
  intro io ds Q X h
  repeat (first | (obtain ⟨rfl, h⟩ := h) | (obtain ⟨_, h⟩ := h))
  all_goals first | rfl | (rename_i h; (repeat (first | (obtain ⟨rfl, h⟩ := h) | (obtain ⟨_, h⟩ := h))); all_goals rfl)
theorem l_length_of : FnL fs_length_ofW 1 := by
  intro io ds Q X h
  repeat (first | (obtain ⟨rfl, h⟩ := h) | (obtain ⟨_, h⟩ := h))
  all_goals first | rfl | (rename_i h; (repeat (first | (obtain ⟨rfl, h⟩ := h) | (obtain ⟨_, h⟩ := h))); all_goals rfl)
theorem l_total_length : FnL fs_total_lengthW 1 := by
  intro io ds Q X h
  repeat (first | (obtain ⟨rfl, h⟩ := h) | (obtain ⟨_, h⟩ := h))
  all_goals first | rfl | (rename_i h; (repeat (first | (obtain ⟨rfl, h⟩ := h) | (obtain ⟨_, h⟩ := h))); all_goals rfl)
def D_law_deck : He.DefD := ⟨("_law_deck", none), "_law_deck", "_law_deck", defArgs s_law_deck, defBody s_law_deck, defScope s_law_deck, [], []⟩
def D_law_draw : He.DefD := ⟨("_law_draw", none), "_law_draw", "_law_draw", defArgs s_law_draw, defBody s_law_draw, defScope s_law_draw, [], []⟩
def D_law_normal : He.DefD := ⟨("_law_normal", none), "_law_normal", "_law_normal", defArgs s_law_normal, defBody s_law_normal, defScope s_law_normal, [], []⟩
def D_law_same : He.DefD := ⟨("_law_same", none), "_law_same", "_law_same", defArgs s_law_same, defBody s_law_same, defScope s_law_same, [], []⟩
def D_law_mark_names : He.DefD := ⟨("_law_mark_names", none), "_law_mark_names", "_law_mark_names", defArgs s_law_mark_names, defBody s_law_mark_names, defScope s_law_mark_names, [], []⟩
def D_law_mixed : He.DefD := ⟨("_law_mixed", none), "_law_mixed", "_law_mixed", defArgs s_law_mixed, defBody s_law_mixed, defScope s_law_mixed, [], []⟩
def D_law_simple : He.DefD := ⟨("_law_simple", none), "_law_simple", "_law_simple", defArgs s_law_simple, defBody s_law_simple, defScope s_law_simple, [], []⟩
def D_law_starts : He.DefD := ⟨("_law_starts", none), "_law_starts", "_law_starts", defArgs s_law_starts, defBody s_law_starts, defScope s_law_starts, [], []⟩
def D_law_times : He.DefD := ⟨("_law_times", none), "_law_times", "_law_times", defArgs s_law_times, defBody s_law_times, defScope s_law_times, [], []⟩
def D_has_simple_form : He.DefD := ⟨("has_simple_form", none), "has_simple_form", "has_simple_form", defArgs s_has_simple_form, defBody s_has_simple_form, defScope s_has_simple_form, [], []⟩
def D_is_integer : He.DefD := ⟨("is_integer", none), "is_integer", "is_integer", defArgs s_is_integer, defBody s_is_integer, defScope s_is_integer, [.non], []⟩
def D_is_name : He.DefD := ⟨("is_name", none), "is_name", "is_name", defArgs s_is_name, defBody s_is_name, defScope s_is_name, [], []⟩
def D_is_item : He.DefD := ⟨("is_item", none), "is_item", "is_item", defArgs s_is_item, defBody s_is_item, defScope s_is_item, [], []⟩
def D_is_score : He.DefD := ⟨("is_score", none), "is_score", "is_score", defArgs s_is_score, defBody s_is_score, defScope s_is_score, [], []⟩
def D_require_score : He.DefD := ⟨("require_score", none), "require_score", "require_score", defArgs s_require_score, defBody s_require_score, defScope s_require_score, [], []⟩
def D_is_simple : He.DefD := ⟨("is_simple", none), "is_simple", "is_simple", defArgs s_is_simple, defBody s_is_simple, defScope s_is_simple, [], []⟩
def D_append_repeat : He.DefD := ⟨("append_repeat", none), "append_repeat", "append_repeat", defArgs s_append_repeat, defBody s_append_repeat, defScope s_append_repeat, [], []⟩
def D_normalized : He.DefD := ⟨("normalized", none), "normalized", "normalized", defArgs s_normalized, defBody s_normalized, defScope s_normalized, [], []⟩
def D_require_simple : He.DefD := ⟨("require_simple", none), "require_simple", "require_simple", defArgs s_require_simple, defBody s_require_simple, defScope s_require_simple, [], []⟩
def D_normal_form : He.DefD := ⟨("normal_form", none), "normal_form", "normal_form", defArgs s_normal_form, defBody s_normal_form, defScope s_normal_form, [], []⟩
def D_mark_indices : He.DefD := ⟨("mark_indices", none), "mark_indices", "mark_indices", defArgs s_mark_indices, defBody s_mark_indices, defScope s_mark_indices, [], []⟩
def D_segment_starts : He.DefD := ⟨("segment_starts", none), "segment_starts", "segment_starts", defArgs s_segment_starts, defBody s_segment_starts, defScope s_segment_starts, [], []⟩
def D_arrival_times : He.DefD := ⟨("arrival_times", none), "arrival_times", "arrival_times", defArgs s_arrival_times, defBody s_arrival_times, defScope s_arrival_times, [], []⟩
def D_length_of : He.DefD := ⟨("length_of", none), "length_of", "length_of", defArgs s_length_of, defBody s_length_of, defScope s_length_of, [], []⟩
def D_total_length : He.DefD := ⟨("total_length", none), "total_length", "total_length", defArgs s_total_length, defBody s_total_length, defScope s_total_length, [], []⟩
def D_law : He.DefD := ⟨("law", none), "law", "law", defArgs s_law, defBody s_law, defScope s_law, [], []⟩
def fn : List He.DefD := [D_law_deck, D_law_draw, D_law_normal, D_law_same, D_law_mark_names, D_law_mixed, D_law_simple, D_law_starts, D_law_times, D_has_simple_form, D_is_integer, D_is_name, D_is_item, D_is_score, D_require_score, D_is_simple, D_append_repeat, D_normalized, D_require_simple, D_normal_form, D_mark_indices, D_segment_starts, D_arrival_times, D_length_of, D_total_length, D_law]
def fa : List He.Fa := [.glo "_law_deck", .glo "_law_draw", .glo "_law_normal", .glo "_law_same", .glo "_law_mark_names", .glo "_law_mixed", .glo "_law_simple", .glo "_law_starts", .glo "_law_times", .glo "has_simple_form", .glo "is_integer", .glo "is_name", .glo "is_item", .glo "is_score", .glo "require_score", .glo "is_simple", .glo "append_repeat", .glo "normalized", .glo "require_simple", .glo "normal_form", .glo "mark_indices", .glo "segment_starts", .glo "arrival_times", .glo "length_of", .glo "total_length", .glo "law", .free "all", .free "any", .free "bool", .free "enumerate", .free "int", .free "isinstance", .free "len", .free "list", .free "max", .free "min", .free "range", .free "repr", .free "set", .free "str", .free "tuple", .free "zip", .str "BAR" "bar", .str "LETTERS" "abcdefghijklmnopqrstuvwxyz", .str "MARK" "mark", .int "MAX_NAME_LENGTH" 8, .str "REPEAT" "repeat"]
abbrev Rw : PySem.W.OpenRow := PySem.W.OpenLaw.row PySem.Challenge.rw_wornsigns_k19_normal_forms
abbrev hk : PySem.W.Hook := He.hookD 4 fa fn
def ob (s : PySem.W.SharedT) : He.AlD := He.obsDG 4 fa fn (HandSHeadRun.getT s)
theorem ob_eq (s : PySem.W.SharedT) : ob s = hk.obs s.abs := He.obsDG_eq (HandSHeadRun.getT_eq s)
def loose0 : List PySem.Str := ["ScoreError", "InvalidScore", "NotSimple", "LETTERS", "MAX_NAME_LENGTH", "BAR", "MARK", "REPEAT", "is_integer", "is_name", "is_item", "is_score", "require_score", "mark_indices", "segment_starts", "arrival_times", "has_simple_form", "is_simple", "require_simple", "append_repeat", "normalized", "normal_form", "length_of", "total_length", "_law_deck", "_law_draw", "_law_mark_names", "_law_starts", "_law_times", "_law_same"]
def loose1 : List PySem.Str := ["_law_simple", "_law_mixed", "_law_normal"]
def loose : List PySem.Str := loose0 ++ loose1
theorem run (w : World) : HandSHeadRun.RunEq Rw (PySem.W.view Rw.prog [38]) hk ob 4000 loose w := by
  intro os
  kernel_rfl
theorem facts {P : Program} {w : World} {K : Fg} {h : Heap} {mg : Str → Option Value} {f : Addr} (X : K.In h) (G : h.Ns mainGlobals mg) (hfa : mg ("law" : Str) = some (.ref f)) (c : He.SaysD fa fn K) :
    ∃ fd : FuncData, (∀ (s : Shared) (u : Value), BindsTo s fd ⟨[u], []⟩ [("_law_script", u)]) ∧ ∀ base : Heap, K.In base → base.Ns mainGlobals mg → LawRuns P w K mg base 7 f fd "_law_script" := by
  obtain ⟨fd_law_deck, F_law_deck⟩ := c.def_ 0 (d := D_law_deck) rfl
  obtain ⟨fd_law_draw, F_law_draw⟩ := c.def_ 1 (d := D_law_draw) rfl
  obtain ⟨fd_law_normal, F_law_normal⟩ := c.def_ 2 (d := D_law_normal) rfl
  obtain ⟨fd_law_same, F_law_same⟩ := c.def_ 3 (d := D_law_same) rfl
  obtain ⟨fd_law_mark_names, F_law_mark_names⟩ := c.def_ 4 (d := D_law_mark_names) rfl
  obtain ⟨fd_law_mixed, F_law_mixed⟩ := c.def_ 5 (d := D_law_mixed) rfl
  obtain ⟨fd_law_simple, F_law_simple⟩ := c.def_ 6 (d := D_law_simple) rfl
  obtain ⟨fd_law_starts, F_law_starts⟩ := c.def_ 7 (d := D_law_starts) rfl
  obtain ⟨fd_law_times, F_law_times⟩ := c.def_ 8 (d := D_law_times) rfl
  obtain ⟨fd_has_simple_form, F_has_simple_form⟩ := c.def_ 9 (d := D_has_simple_form) rfl
  obtain ⟨fd_is_integer, F_is_integer⟩ := c.def_ 10 (d := D_is_integer) rfl
  obtain ⟨fd_is_name, F_is_name⟩ := c.def_ 11 (d := D_is_name) rfl
  obtain ⟨fd_is_item, F_is_item⟩ := c.def_ 12 (d := D_is_item) rfl
  obtain ⟨fd_is_score, F_is_score⟩ := c.def_ 13 (d := D_is_score) rfl
  obtain ⟨fd_require_score, F_require_score⟩ := c.def_ 14 (d := D_require_score) rfl
  obtain ⟨fd_is_simple, F_is_simple⟩ := c.def_ 15 (d := D_is_simple) rfl
  obtain ⟨fd_append_repeat, F_append_repeat⟩ := c.def_ 16 (d := D_append_repeat) rfl
  obtain ⟨fd_normalized, F_normalized⟩ := c.def_ 17 (d := D_normalized) rfl
  obtain ⟨fd_require_simple, F_require_simple⟩ := c.def_ 18 (d := D_require_simple) rfl
  obtain ⟨fd_normal_form, F_normal_form⟩ := c.def_ 19 (d := D_normal_form) rfl
  obtain ⟨fd_mark_indices, F_mark_indices⟩ := c.def_ 20 (d := D_mark_indices) rfl
  obtain ⟨fd_segment_starts, F_segment_starts⟩ := c.def_ 21 (d := D_segment_starts) rfl
  obtain ⟨fd_arrival_times, F_arrival_times⟩ := c.def_ 22 (d := D_arrival_times) rfl
  obtain ⟨fd_length_of, F_length_of⟩ := c.def_ 23 (d := D_length_of) rfl
  obtain ⟨fd_total_length, F_total_length⟩ := c.def_ 24 (d := D_total_length) rfl
  obtain ⟨fd_law, F_law⟩ := c.def_ 25 (d := D_law) rfl
  have M : Ms mg := ⟨He.free_ok X G (c.fact 26 (f := .free "all") rfl),
    He.free_ok X G (c.fact 27 (f := .free "any") rfl),
    He.free_ok X G (c.fact 28 (f := .free "bool") rfl),
    He.free_ok X G (c.fact 29 (f := .free "enumerate") rfl),
    He.free_ok X G (c.fact 30 (f := .free "int") rfl),
    He.free_ok X G (c.fact 31 (f := .free "isinstance") rfl),
    He.free_ok X G (c.fact 32 (f := .free "len") rfl),
    He.free_ok X G (c.fact 33 (f := .free "list") rfl),
    He.free_ok X G (c.fact 34 (f := .free "max") rfl),
    He.free_ok X G (c.fact 35 (f := .free "min") rfl),
    He.free_ok X G (c.fact 36 (f := .free "range") rfl),
    He.free_ok X G (c.fact 37 (f := .free "repr") rfl),
    He.free_ok X G (c.fact 38 (f := .free "set") rfl),
    He.free_ok X G (c.fact 39 (f := .free "str") rfl),
    He.free_ok X G (c.fact 40 (f := .free "tuple") rfl),
    He.free_ok X G (c.fact 41 (f := .free "zip") rfl),
    He.str_ok X G (c.fact 42 (f := .str "BAR" "bar") rfl),
    He.str_ok X G (c.fact 43 (f := .str "LETTERS" "abcdefghijklmnopqrstuvwxyz") rfl),
    He.str_ok X G (c.fact 44 (f := .str "MARK" "mark") rfl),
    He.int_ok X G (c.fact 45 (f := .int "MAX_NAME_LENGTH" 8) rfl),
    He.str_ok X G (c.fact 46 (f := .str "REPEAT" "repeat") rfl)⟩
  have el := hfa.symm.trans (He.glo_ok X G (c.fact 25 (f := .glo "law") rfl))
  cases el
  refine ⟨fd_law, fun s u => FunD.bindsA (ps := ["_law_script"]) F_law (fun _ _ _ _ _ _ us hl => match us, hl with | [_], _ => rfl) s [u] rfl, fun base _ _ => ?_⟩
  have o_law_deck : FnOk P w K mg base (L2N.CX P w) 1 (He.fAd K ("_law_deck", none)) fd_law_deck ["_law_script"] (lift ⟨K, OpS K, fun _ => 0⟩ fs_law_deck) := vfn F_law_deck sc_law_deck l_law_deck fv_law_deck (d_law_deck M )
  have g_law_deck : Gd P w ⟨K, OpS K, fun _ => 0⟩ mg base 1 "_law_deck" fs_law_deck ["_law_script"] [] := ⟨_, _, He.glo_ok X G (c.fact 0 (f := .glo "_law_deck") rfl), F_law_deck.kp, o_law_deck, [], .nil, FunD.bindsN F_law_deck fun _ _ _ _ _ _ us hl => match us, hl with | [_], _ => rfl⟩
  have o_law_draw : FnOk P w K mg base (L2N.CX P w) 1 (He.fAd K ("_law_draw", none)) fd_law_draw ["_law_deck_here", "_law_many"] (lift ⟨K, OpS K, fun _ => 0⟩ fs_law_drawX) := FunD.ok F_law_draw sc_law_draw (fun _ _ _ _ h => lift_len l_law_draw h) fun cdv A outer s H vs Q E hr hsp => d_law_draw M cdv A outer s H vs Q E hr hsp
  have g_law_draw : Gd P w ⟨K, OpS K, fun _ => 0⟩ mg base 1 "_law_draw" fs_law_drawX ["_law_deck_here", "_law_many"] [] := ⟨_, _, He.glo_ok X G (c.fact 1 (f := .glo "_law_draw") rfl), F_law_draw.kp, o_law_draw, [], .nil, FunD.bindsN F_law_draw fun _ _ _ _ _ _ us hl => match us, hl with | [_, _], _ => rfl⟩
  have o_law_normal : FnOk P w K mg base (L2N.CX P w) 1 (He.fAd K ("_law_normal", none)) fd_law_normal ["_law_items"] (lift ⟨K, OpS K, fun _ => 0⟩ fs_law_normal) := vfn F_law_normal sc_law_normal l_law_normal fv_law_normal (d_law_normal M )
  have g_law_normal : Gd P w ⟨K, OpS K, fun _ => 0⟩ mg base 1 "_law_normal" fs_law_normal ["_law_items"] [] := ⟨_, _, He.glo_ok X G (c.fact 2 (f := .glo "_law_normal") rfl), F_law_normal.kp, o_law_normal, [], .nil, FunD.bindsN F_law_normal fun _ _ _ _ _ _ us hl => match us, hl with | [_], _ => rfl⟩
  have o_law_same_0 : FnOk P w K mg base (L2N.CX P w) 1 (He.fAd K ("_law_same", none)) fd_law_same ["_law_found", "_law_due"] (lift ⟨K, OpS K, fun _ => 0⟩ (fsRec_law_same 0)) := FunD.ok F_law_same sc_law_same (fun _ _ _ _ h => (no_lift h).elim) fun _ _ _ _ _ _ _ _ _ h => (no_lift h).elim
  have g_law_same_0 : Gd P w ⟨K, OpS K, fun _ => 0⟩ mg base 1 "_law_same" (fsRec_law_same 0) ["_law_found", "_law_due"] [] := ⟨_, _, He.glo_ok X G (c.fact 3 (f := .glo "_law_same") rfl), F_law_same.kp, o_law_same_0, [], .nil, FunD.bindsN F_law_same fun _ _ _ _ _ _ us hl => match us, hl with | [_, _], _ => rfl⟩
  have o_law_same_1 : FnOk P w K mg base (L2N.CX P w) 2 (He.fAd K ("_law_same", none)) fd_law_same ["_law_found", "_law_due"] (lift ⟨K, OpS K, fun _ => 0⟩ (fsRec_law_same 1)) := vfn F_law_same sc_law_same (lRec_law_same 1) (fvRec_law_same 0) (d_law_same M g_law_same_0)
  have g_law_same_1 : Gd P w ⟨K, OpS K, fun _ => 0⟩ mg base 2 "_law_same" (fsRec_law_same 1) ["_law_found", "_law_due"] [] := ⟨_, _, He.glo_ok X G (c.fact 3 (f := .glo "_law_same") rfl), F_law_same.kp, o_law_same_1, [], .nil, FunD.bindsN F_law_same fun _ _ _ _ _ _ us hl => match us, hl with | [_, _], _ => rfl⟩
  have o_law_same_2 : FnOk P w K mg base (L2N.CX P w) 3 (He.fAd K ("_law_same", none)) fd_law_same ["_law_found", "_law_due"] (lift ⟨K, OpS K, fun _ => 0⟩ (fsRec_law_same 2)) := vfn F_law_same sc_law_same (lRec_law_same 2) (fvRec_law_same 1) (d_law_same M g_law_same_1)
  have g_law_same_2 : Gd P w ⟨K, OpS K, fun _ => 0⟩ mg base 3 "_law_same" (fsRec_law_same 2) ["_law_found", "_law_due"] [] := ⟨_, _, He.glo_ok X G (c.fact 3 (f := .glo "_law_same") rfl), F_law_same.kp, o_law_same_2, [], .nil, FunD.bindsN F_law_same fun _ _ _ _ _ _ us hl => match us, hl with | [_, _], _ => rfl⟩
  have o_law_same_3 : FnOk P w K mg base (L2N.CX P w) 4 (He.fAd K ("_law_same", none)) fd_law_same ["_law_found", "_law_due"] (lift ⟨K, OpS K, fun _ => 0⟩ (fsRec_law_same 3)) := vfn F_law_same sc_law_same (lRec_law_same 3) (fvRec_law_same 2) (d_law_same M g_law_same_2)
  have g_law_same : Gd P w ⟨K, OpS K, fun _ => 0⟩ mg base 4 "_law_same" (fsRec_law_same 3) ["_law_found", "_law_due"] [] := ⟨_, _, He.glo_ok X G (c.fact 3 (f := .glo "_law_same") rfl), F_law_same.kp, o_law_same_3, [], .nil, FunD.bindsN F_law_same fun _ _ _ _ _ _ us hl => match us, hl with | [_, _], _ => rfl⟩
  have o_law_mark_names : FnOk P w K mg base (L2N.CX P w) 1 (He.fAd K ("_law_mark_names", none)) fd_law_mark_names [] (lift ⟨K, OpS K, fun _ => 0⟩ fs_law_mark_names) := vfn F_law_mark_names sc_law_mark_names l_law_mark_names fv_law_mark_names (d_law_mark_names M )
  have g_law_mark_names : Gd P w ⟨K, OpS K, fun _ => 0⟩ mg base 1 "_law_mark_names" fs_law_mark_names [] [] := ⟨_, _, He.glo_ok X G (c.fact 4 (f := .glo "_law_mark_names") rfl), F_law_mark_names.kp, o_law_mark_names, [], .nil, FunD.bindsN F_law_mark_names fun _ _ _ _ _ _ us hl => match us, hl with | [], _ => rfl⟩
  have o_law_mixed : FnOk P w K mg base (L2N.CX P w) 2 (He.fAd K ("_law_mixed", none)) fd_law_mixed ["_law_deck_here", "_law_some"] (lift ⟨K, OpS K, fun _ => 0⟩ fs_law_mixed) := vfn F_law_mixed sc_law_mixed l_law_mixed fv_law_mixed (d_law_mixed M (g_law_draw.mono (by decide)))
  have g_law_mixed : Gd P w ⟨K, OpS K, fun _ => 0⟩ mg base 2 "_law_mixed" fs_law_mixed ["_law_deck_here", "_law_some"] [] := ⟨_, _, He.glo_ok X G (c.fact 5 (f := .glo "_law_mixed") rfl), F_law_mixed.kp, o_law_mixed, [], .nil, FunD.bindsN F_law_mixed fun _ _ _ _ _ _ us hl => match us, hl with | [_, _], _ => rfl⟩
  have o_law_simple : FnOk P w K mg base (L2N.CX P w) 3 (He.fAd K ("_law_simple", none)) fd_law_simple ["_law_deck_here", "_law_most", "_law_wide"] (lift ⟨K, OpS K, fun _ => 0⟩ fs_law_simpleE) := vfn F_law_simple sc_law_simple l_law_simple fv_law_simpleE (d_law_simple M (g_law_draw.mono (by decide)) (g_law_mark_names.mono (by decide)) (g_law_mixed.mono (by decide)))
  have g_law_simple : Gd P w ⟨K, OpS K, fun _ => 0⟩ mg base 3 "_law_simple" fs_law_simpleE ["_law_deck_here", "_law_most", "_law_wide"] [] := ⟨_, _, He.glo_ok X G (c.fact 6 (f := .glo "_law_simple") rfl), F_law_simple.kp, o_law_simple, [], .nil, FunD.bindsN F_law_simple fun _ _ _ _ _ _ us hl => match us, hl with | [_, _, _], _ => rfl⟩
  have o_law_starts : FnOk P w K mg base (L2N.CX P w) 1 (He.fAd K ("_law_starts", none)) fd_law_starts ["_law_items"] (lift ⟨K, OpS K, fun _ => 0⟩ fs_law_startsW) := vfn F_law_starts sc_law_starts l_law_starts fv_law_startsW (d_law_starts M )
  have g_law_starts : Gd P w ⟨K, OpS K, fun _ => 0⟩ mg base 1 "_law_starts" fs_law_startsW ["_law_items"] [] := ⟨_, _, He.glo_ok X G (c.fact 7 (f := .glo "_law_starts") rfl), F_law_starts.kp, o_law_starts, [], .nil, FunD.bindsN F_law_starts fun _ _ _ _ _ _ us hl => match us, hl with | [_], _ => rfl⟩
  have o_law_times : FnOk P w K mg base (L2N.CX P w) 2 (He.fAd K ("_law_times", none)) fd_law_times ["_law_items"] (lift ⟨K, OpS K, fun _ => 0⟩ fs_law_timesW) := vfn F_law_times sc_law_times l_law_times fv_law_timesW (d_law_times M (g_law_starts.mono (by decide)))
  have g_law_times : Gd P w ⟨K, OpS K, fun _ => 0⟩ mg base 2 "_law_times" fs_law_timesW ["_law_items"] [] := ⟨_, _, He.glo_ok X G (c.fact 8 (f := .glo "_law_times") rfl), F_law_times.kp, o_law_times, [], .nil, FunD.bindsN F_law_times fun _ _ _ _ _ _ us hl => match us, hl with | [_], _ => rfl⟩
  have o_has_simple_form : FnOk P w K mg base (L2N.CX P w) 1 (He.fAd K ("has_simple_form", none)) fd_has_simple_form ["score"] (lift ⟨K, OpS K, fun _ => 0⟩ fs_has_simple_form) := vfn F_has_simple_form sc_has_simple_form l_has_simple_form fv_has_simple_form (d_has_simple_form M )
  have g_has_simple_form : Gd P w ⟨K, OpS K, fun _ => 0⟩ mg base 1 "has_simple_form" fs_has_simple_form ["score"] [] := ⟨_, _, He.glo_ok X G (c.fact 9 (f := .glo "has_simple_form") rfl), F_has_simple_form.kp, o_has_simple_form, [], .nil, FunD.bindsN F_has_simple_form fun _ _ _ _ _ _ us hl => match us, hl with | [_], _ => rfl⟩
  have o_is_integer : FnOk P w K mg base (L2N.CX P w) 1 (He.fAd K ("is_integer", none)) fd_is_integer ["value", "low", "high"] (lift ⟨K, OpS K, fun _ => 0⟩ fs_is_integer) := vfn F_is_integer sc_is_integer l_is_integer fv_is_integer (d_is_integer M )
  have g_is_integer_1 : Gd P w ⟨K, OpS K, fun _ => 0⟩ mg base 1 "is_integer" fs_is_integer ["value", "low", "high"] [.non] := by
    obtain ⟨ds, v, b⟩ := FunD.binds1 (ps := ["value", "low", "high"]) F_is_integer 2 0 (List.cons_ne_nil _ _) rfl fun _ _ _ _ _ _ _ us its hl hl2 => match us, hl, its, hl2 with | [_, _], _, [_], _ => ⟨_, rfl, rfl⟩
    exact ⟨_, _, He.glo_ok X G (c.fact 10 (f := .glo "is_integer") rfl), F_is_integer.kp, o_is_integer, ds, v, b⟩
  have o_is_name : FnOk P w K mg base (L2N.CX P w) 1 (He.fAd K ("is_name", none)) fd_is_name ["value"] (lift ⟨K, OpS K, fun _ => 0⟩ fs_is_name) := vfn F_is_name sc_is_name l_is_name fv_is_name (d_is_name M )
  have g_is_name : Gd P w ⟨K, OpS K, fun _ => 0⟩ mg base 1 "is_name" fs_is_name ["value"] [] := ⟨_, _, He.glo_ok X G (c.fact 11 (f := .glo "is_name") rfl), F_is_name.kp, o_is_name, [], .nil, FunD.bindsN F_is_name fun _ _ _ _ _ _ us hl => match us, hl with | [_], _ => rfl⟩
  have o_is_item : FnOk P w K mg base (L2N.CX P w) 2 (He.fAd K ("is_item", none)) fd_is_item ["value", "marks"] (lift ⟨K, OpS K, fun _ => 0⟩ fs_is_item) := vfn F_is_item sc_is_item l_is_item fv_is_item (d_is_item M (g_is_integer_1.mono (by decide)) (g_is_name.mono (by decide)))
  have g_is_item : Gd P w ⟨K, OpS K, fun _ => 0⟩ mg base 2 "is_item" fs_is_item ["value", "marks"] [] := ⟨_, _, He.glo_ok X G (c.fact 12 (f := .glo "is_item") rfl), F_is_item.kp, o_is_item, [], .nil, FunD.bindsN F_is_item fun _ _ _ _ _ _ us hl => match us, hl with | [_, _], _ => rfl⟩
  have o_is_score : FnOk P w K mg base (L2N.CX P w) 3 (He.fAd K ("is_score", none)) fd_is_score ["value"] (lift ⟨K, OpS K, fun _ => 0⟩ fs_is_scoreW) := vfn F_is_score sc_is_score l_is_score fv_is_scoreW (d_is_score M (g_is_item.mono (by decide)))
  have g_is_score : Gd P w ⟨K, OpS K, fun _ => 0⟩ mg base 3 "is_score" fs_is_scoreW ["value"] [] := ⟨_, _, He.glo_ok X G (c.fact 13 (f := .glo "is_score") rfl), F_is_score.kp, o_is_score, [], .nil, FunD.bindsN F_is_score fun _ _ _ _ _ _ us hl => match us, hl with | [_], _ => rfl⟩
  have o_require_score : FnOk P w K mg base (L2N.CX P w) 4 (He.fAd K ("require_score", none)) fd_require_score ["score"] (lift ⟨K, OpS K, fun _ => 0⟩ fs_require_scoreW) := vfn F_require_score sc_require_score l_require_score fv_require_scoreW (d_require_score M (g_is_score.mono (by decide)))
  have g_require_score : Gd P w ⟨K, OpS K, fun _ => 0⟩ mg base 4 "require_score" fs_require_scoreW ["score"] [] := ⟨_, _, He.glo_ok X G (c.fact 14 (f := .glo "require_score") rfl), F_require_score.kp, o_require_score, [], .nil, FunD.bindsN F_require_score fun _ _ _ _ _ _ us hl => match us, hl with | [_], _ => rfl⟩
  have o_is_simple : FnOk P w K mg base (L2N.CX P w) 5 (He.fAd K ("is_simple", none)) fd_is_simple ["score"] (lift ⟨K, OpS K, fun _ => 0⟩ fs_is_simpleW) := vfn F_is_simple sc_is_simple l_is_simple fv_is_simpleW (d_is_simple M (g_has_simple_form.mono (by decide)) (g_require_score.mono (by decide)))
  have g_is_simple : Gd P w ⟨K, OpS K, fun _ => 0⟩ mg base 5 "is_simple" fs_is_simpleW ["score"] [] := ⟨_, _, He.glo_ok X G (c.fact 15 (f := .glo "is_simple") rfl), F_is_simple.kp, o_is_simple, [], .nil, FunD.bindsN F_is_simple fun _ _ _ _ _ _ us hl => match us, hl with | [_], _ => rfl⟩
  have o_append_repeat : FnOk P w K mg base (L2N.CX P w) 1 (He.fAd K ("append_repeat", none)) fd_append_repeat ["items", "name", "count"] (lift ⟨K, OpS K, fun _ => 0⟩ fs_append_repeat) := vfn F_append_repeat sc_append_repeat l_append_repeat fv_append_repeat (d_append_repeat M )
  have g_append_repeat : Gd P w ⟨K, OpS K, fun _ => 0⟩ mg base 1 "append_repeat" fs_append_repeat ["items", "name", "count"] [] := ⟨_, _, He.glo_ok X G (c.fact 16 (f := .glo "append_repeat") rfl), F_append_repeat.kp, o_append_repeat, [], .nil, FunD.bindsN F_append_repeat fun _ _ _ _ _ _ us hl => match us, hl with | [_, _, _], _ => rfl⟩
  have o_normalized : FnOk P w K mg base (L2N.CX P w) 2 (He.fAd K ("normalized", none)) fd_normalized ["score"] (lift ⟨K, OpS K, fun _ => 0⟩ fs_normalized) := vfn F_normalized sc_normalized l_normalized fv_normalized (d_normalized M (g_append_repeat.mono (by decide)))
  have g_normalized : Gd P w ⟨K, OpS K, fun _ => 0⟩ mg base 2 "normalized" fs_normalized ["score"] [] := ⟨_, _, He.glo_ok X G (c.fact 17 (f := .glo "normalized") rfl), F_normalized.kp, o_normalized, [], .nil, FunD.bindsN F_normalized fun _ _ _ _ _ _ us hl => match us, hl with | [_], _ => rfl⟩
  have o_require_simple : FnOk P w K mg base (L2N.CX P w) 5 (He.fAd K ("require_simple", none)) fd_require_simple ["score"] (lift ⟨K, OpS K, fun _ => 0⟩ fs_require_simpleW) := vfn F_require_simple sc_require_simple l_require_simple fv_require_simpleW (d_require_simple M (g_has_simple_form.mono (by decide)) (g_require_score.mono (by decide)))
  have g_require_simple : Gd P w ⟨K, OpS K, fun _ => 0⟩ mg base 5 "require_simple" fs_require_simpleW ["score"] [] := ⟨_, _, He.glo_ok X G (c.fact 18 (f := .glo "require_simple") rfl), F_require_simple.kp, o_require_simple, [], .nil, FunD.bindsN F_require_simple fun _ _ _ _ _ _ us hl => match us, hl with | [_], _ => rfl⟩
  have o_normal_form : FnOk P w K mg base (L2N.CX P w) 6 (He.fAd K ("normal_form", none)) fd_normal_form ["score"] (lift ⟨K, OpS K, fun _ => 0⟩ fs_normal_formW) := vfn F_normal_form sc_normal_form l_normal_form fv_normal_formW (d_normal_form M (g_normalized.mono (by decide)) (g_require_simple.mono (by decide)))
  have g_normal_form : Gd P w ⟨K, OpS K, fun _ => 0⟩ mg base 6 "normal_form" fs_normal_formW ["score"] [] := ⟨_, _, He.glo_ok X G (c.fact 19 (f := .glo "normal_form") rfl), F_normal_form.kp, o_normal_form, [], .nil, FunD.bindsN F_normal_form fun _ _ _ _ _ _ us hl => match us, hl with | [_], _ => rfl⟩
  have k_normal_form : GdK P w ⟨K, OpS K, fun _ => 0⟩ mg base 6 "normal_form" fs_normal_formW ["score"] ["score"] [0] := ⟨_, _, He.glo_ok X G (c.fact 19 (f := .glo "normal_form") rfl), F_normal_form.kp, o_normal_form, FunD.bindsKw F_normal_form fun _ _ _ _ _ _ ws hl => match ws, hl with | [_], _ => rfl⟩
  have o_mark_indices : FnOk P w K mg base (L2N.CX P w) 1 (He.fAd K ("mark_indices", none)) fd_mark_indices ["score"] (lift ⟨K, OpS K, fun _ => 0⟩ fs_mark_indicesW) := vfn F_mark_indices sc_mark_indices l_mark_indices fv_mark_indicesW (d_mark_indices M )
  have g_mark_indices : Gd P w ⟨K, OpS K, fun _ => 0⟩ mg base 1 "mark_indices" fs_mark_indicesW ["score"] [] := ⟨_, _, He.glo_ok X G (c.fact 20 (f := .glo "mark_indices") rfl), F_mark_indices.kp, o_mark_indices, [], .nil, FunD.bindsN F_mark_indices fun _ _ _ _ _ _ us hl => match us, hl with | [_], _ => rfl⟩
  have o_segment_starts : FnOk P w K mg base (L2N.CX P w) 2 (He.fAd K ("segment_starts", none)) fd_segment_starts ["score"] (lift ⟨K, OpS K, fun _ => 0⟩ fs_segment_startsW) := vfn F_segment_starts sc_segment_starts l_segment_starts fv_segment_startsW (d_segment_starts M (g_mark_indices.mono (by decide)))
  have g_segment_starts : Gd P w ⟨K, OpS K, fun _ => 0⟩ mg base 2 "segment_starts" fs_segment_startsW ["score"] [] := ⟨_, _, He.glo_ok X G (c.fact 21 (f := .glo "segment_starts") rfl), F_segment_starts.kp, o_segment_starts, [], .nil, FunD.bindsN F_segment_starts fun _ _ _ _ _ _ us hl => match us, hl with | [_], _ => rfl⟩
  have o_arrival_times : FnOk P w K mg base (L2N.CX P w) 3 (He.fAd K ("arrival_times", none)) fd_arrival_times ["score"] (lift ⟨K, OpS K, fun _ => 0⟩ fs_arrival_timesW) := vfn F_arrival_times sc_arrival_times l_arrival_times fv_arrival_timesW (d_arrival_times M (g_segment_starts.mono (by decide)))
  have g_arrival_times : Gd P w ⟨K, OpS K, fun _ => 0⟩ mg base 3 "arrival_times" fs_arrival_timesW ["score"] [] := ⟨_, _, He.glo_ok X G (c.fact 22 (f := .glo "arrival_times") rfl), F_arrival_times.kp, o_arrival_times, [], .nil, FunD.bindsN F_arrival_times fun _ _ _ _ _ _ us hl => match us, hl with | [_], _ => rfl⟩
  have o_length_of : FnOk P w K mg base (L2N.CX P w) 4 (He.fAd K ("length_of", none)) fd_length_of ["score"] (lift ⟨K, OpS K, fun _ => 0⟩ fs_length_ofW) := vfn F_length_of sc_length_of l_length_of fv_length_ofW (d_length_of M (g_arrival_times.mono (by decide)))
  have g_length_of : Gd P w ⟨K, OpS K, fun _ => 0⟩ mg base 4 "length_of" fs_length_ofW ["score"] [] := ⟨_, _, He.glo_ok X G (c.fact 23 (f := .glo "length_of") rfl), F_length_of.kp, o_length_of, [], .nil, FunD.bindsN F_length_of fun _ _ _ _ _ _ us hl => match us, hl with | [_], _ => rfl⟩
  have o_total_length : FnOk P w K mg base (L2N.CX P w) 5 (He.fAd K ("total_length", none)) fd_total_length ["score"] (lift ⟨K, OpS K, fun _ => 0⟩ fs_total_lengthW) := vfn F_total_length sc_total_length l_total_length fv_total_lengthW (d_total_length M (g_length_of.mono (by decide)) (g_require_score.mono (by decide)))
  have g_total_length : Gd P w ⟨K, OpS K, fun _ => 0⟩ mg base 5 "total_length" fs_total_lengthW ["score"] [] := ⟨_, _, He.glo_ok X G (c.fact 24 (f := .glo "total_length") rfl), F_total_length.kp, o_total_length, [], .nil, FunD.bindsN F_total_length fun _ _ _ _ _ _ us hl => match us, hl with | [_], _ => rfl⟩
  exact fun s H args us vs Q E hr e0 hbd r hsp => law_run F_law sc_law fv_law (d_law M (g_law_deck.mono (by decide)) (g_law_draw.mono (by decide)) (g_law_normal.mono (by decide)) (g_law_same.mono (by decide)) (g_law_simple.mono (by decide)) (g_law_times.mono (by decide)) (g_is_simple.mono (by decide)) (g_normal_form.mono (by decide)) (g_total_length.mono (by decide)) (k_normal_form.mono (by decide))) s H args us vs Q E hr e0 hbd r hsp
end K19
open PySem PySem.W PySem.Calls PyProof.Rows
theorem PySem.Challenge.cw_wornsigns_k19_normal_forms_holds : PySem.Challenge.rw_wornsigns_k19_normal_forms.Holds := by
  w_on; o_law
  refine HandSHeadRun.head_any (r := OpenLaw.row PySem.Challenge.rw_wornsigns_k19_normal_forms) (q := view (OpenLaw.row PySem.Challenge.rw_wornsigns_k19_normal_forms).prog [38]) (H := K19.hk) (ob := K19.ob) (M := 4000) (loose := K19.loose) (d := HandSHeadRun.topDef (OpenLaw.row PySem.Challenge.rw_wornsigns_k19_normal_forms).prog 38) (kwd := []) K19.ob_eq
    (by kernel_rfl) (fun s => by kernel_rfl) K19.run (by kernel_rfl) (by kernel_rfl) (by kernel_rfl) (by rfl) (by first | assumption | decide +kernel) (by decide +kernel) ⟨rfl, rfl, rfl, rfl, rfl, by decide +kernel⟩ ?hw ?hc
  case hw => w_witness2
  case hc =>
    refine VL.walk_law (l := PySem.Challenge.rw_wornsigns_k19_normal_forms) (k := 7) (y := "_law_script") rfl (by kernel_rfl) ⟨rfl, by decide, by decide⟩ ?F
    intro w mg fa h Y G hmg0
    obtain ⟨K, KX, c⟩ := Y
    have hmg : mg ("law" : PySem.Str) = some (.ref fa) := by
      have e : (HandSHeadRun.topDef (OpenLaw.row PySem.Challenge.rw_wornsigns_k19_normal_forms).prog 38).name = ("law" : PySem.Str) := by kernel_rfl
      rw [← e]
      exact hmg0
    obtain ⟨fd, hb, hF⟩ := K19.facts (P := (PySem.Challenge.rw_wornsigns_k19_normal_forms).prog) (w := w) KX G hmg c
    exact ⟨K, fd, KX, hb, hF⟩
