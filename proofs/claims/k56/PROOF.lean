import PyProof.Rows.All
import Wide.All
import OpenK.AllK
import Wide.FinOn
import HandS.HeadHook3
import HandS.HeadEnd
import HandS.Head2
import HandS.ExcInit
import HandS.TryOnly
import HandS.Words
import HandS.ForMost
import HandS.ForExc
import HandS.IsInst
import HandS.Wide
import HandS.Deep
import HandS.DictComp
import HandS.Flow
import HandS.CallSlots
import HandS.ExcCtx
import HandS.Style
import HandS.SortInts
import HandS.More
import HandS.Defaults
import HandS.HeadHook2
import PyProof.Rows.SortShellAny
import PyProof.EqAt
import PyProof.EqKinds
import PyProof.TupleCall
import HandS.Base
import HandS.Call
import HandS.List
import HandS.Dict
import HandS.Head0
import HandS.Head1
import HandS.HeadHook1
import HandS.WideBits
import HandS.Keys
import HandS.SetFor
import HandS.Strs
import HandS.ExcIs
import HandS.ExcValue
import PyProof.Rows.Digits
import PyProof.ReprRoads
import PyProof.ReprBulk
import HandS.Hot
import HandS.HotCalls
import PyProof.ListStr
import HandS.Conv
import HandS.Zip
import KE.KDictPairs
import HandS.FStr
import HandS.Text
import HandS.Codes
import KE.KxText
import KE.KxAffix
import Lean
import KE.KStateDown
import PyProof.EqLayable
import PyProof.Rows.StrMeet
import PySem.Challenge.RW_wornsigns_k56_parse_errors
set_option Elab.async false
set_option linter.all false
set_option maxRecDepth 100000
set_option maxHeartbeats 1000000
namespace VL
open PySem PySem.Spec PyProof.Rows L2
def clsBody : Stmt → List Stmt
  | .ClassDef _ _ _ b .. => b
  | _ => []
def oxB (K : PySem.W.Frag) (C : Addr) : Bool := match K.lookup C with
  | some ⟨.type "type", _, .cls cd, sl⟩ => (match cd.mro, sl.toList with
    | .ref C' :: bm, [_, _, _, _, some (.builtin n), _] => C' == C && n == "ValueError.__new__" && !cd.hasDel && cd.hasDict && PySem.HandSPX.refsVE bm
    | _, _ => false)
  | _ => false
def oiB (K : PySem.W.Frag) (nm : Str) : Bool := ((oxB K (He.ga K nm) && He.eqO (PySem.W.findIn K (.ref (He.ga K nm)) "__setattr__") (some (some (.builtin "object.__setattr__")))) && (decide (PySem.W.subIn K (.ref (He.ga K nm)) (.type "BaseException") = some true) && decide (PySem.W.typeIn K (.ref (He.ga K nm)) = some (.type "type")))) &&
  ((PySem.W.keepIn K (.ref (He.ga K nm)) && He.eqO (PySem.W.findIn K (.ref (He.ga K nm)) "index") (some none)) && (He.eqO (PySem.W.findIn K (.ref (He.ga K nm)) "__init__") (some (some (.ref (He.fAd K (nm, some "__init__"))))) && decide (PySem.W.typeIn K (.ref (He.fAd K (nm, some "__init__"))) = some (.type "function")))) &&
  ((decide (PySem.W.exmOne K (.ref (He.ga K nm)) (.ref (He.ga K nm)) = some true) && He.eqO (PySem.W.findIn K (.ref (He.ga K nm)) "__getattribute__") (some (some (.builtin "BaseException.__getattribute__")))) && (He.eqO (PySem.W.findIn K (.ref (He.ga K nm)) "__getattr__") (some none) && PySem.W.hasDictIn K (He.ga K nm)))
def excCB (K : PySem.W.Frag) (D : Addr) : Bool := (He.eqO (PySem.W.findIn K (.ref D) "__getattribute__") (some (some (.builtin "BaseException.__getattribute__"))) && He.eqO (PySem.W.findIn K (.ref D) "__getattr__") (some none)) &&
  ((decide (PySem.W.subIn K (.ref D) (.type "BaseException") = some true) && PySem.W.hasDictIn K D) && (He.eqO (PySem.W.findIn K (.ref D) "__class__") (some (some (.builtin "object.__class__"))) &&
  ((He.eqO (PySem.W.specialIn K (.builtin "object.__class__") "__get__") (some (some (.builtin "getset_descriptor.__get__"))) && decide (PySem.W.takesIn K (.builtin "object.__class__") = some true)) && decide (PySem.W.mroIn K D (.type "object") = some true))))
def exB (K : PySem.W.Frag) (xs ys : List Str) : Bool := xs.all fun x => (excCB K (He.ga K x) && decide (PySem.W.kitOne K (.ref (He.ga K x)) (.type "ValueError") = some true)) && (decide (PySem.W.exmOne K (.ref (He.ga K x)) (.ref (He.ga K "ScoreError")) = some true) &&
  ys.all fun y => decide (PySem.W.kitOne K (.ref (He.ga K x)) (.ref (He.ga K y)) = some (decide (x = y))))
def pairOf (e : DictEntry) : Option (Str × Str) := match e.key, e.val with
  | .str x _, .str y _ => some (x, y)
  | _, _ => none
def tabB (K : PySem.W.Frag) (a : Addr) (tb : List (Str × Str)) : Bool := match K.lookup a with
  | some ⟨_, _, .dict es _, _⟩ => decide (es.toList.map pairOf = tb.map some)
  | _ => false
def obsE (n : Nat) (fa : List He.Fa) (fn : List He.DefD) (ex : PySem.W.Frag → Bool) (g : Addr → Option Obj) : Bool × He.AlD := (ex (He.frG g (He.asD g n)), He.obsD fa fn (He.frG g (He.asD g n)))
def hookE (n : Nat) (fa : List He.Fa) (fn : List He.DefD) (ex : PySem.W.Frag → Bool) : PySem.W.Hook where
  α := Bool × He.AlD
  obs := fun s => obsE n fa fn ex s.heap.get?
  val := fun _ => (true, He.valD fn)
  says := fun _ h => ∃ K : PySem.W.Frag, K.In h ∧ ex K = true ∧ He.SaysD fa fn K
  of := fun _ _ e => ⟨_, He.frG_in, congrArg Prod.fst e, congrArg Prod.snd e⟩
  keeps := fun _ _ _ ⟨K, hK, c⟩ k => ⟨K, PySem.W.Frag.In.keeps hK k, c⟩
theorem obsE_eq {n : Nat} {fa : List He.Fa} {fn : List He.DefD} {ex : PySem.W.Frag → Bool} {g : Addr → Option Obj} {s : Shared} (h : ∀ a, g a = s.heap.get? a) : obsE n fa fn ex g = (hookE n fa fn ex).obs s := by
  rw [show g = s.heap.get? from funext h] <;> rfl
def sigTb : List (Str × Str) := [("drop", "N"), ("show", "N"), ("length", "N"), ("plays", "NI"), ("before", "NII"), ("next", "NII"), ("bar", "NI"), ("state", "NI"), ("play", "NII"), ("visits", "N"), ("normal", "N"), ("compare", "NN")]
end VL
namespace VL
open PySem PySem.W PySem.Calls PyProof.Rows HandSHeadRun
end VL

set_option Elab.async false
set_option linter.all false
set_option maxRecDepth 100000
set_option maxHeartbeats 400000
set_option maxHeartbeats 0
namespace K56
open PySem L2 VL
def top (i : Nat) : Stmt := PySem.Challenge.pw_wornsigns_k56_parse_errors.main.body.getD i (.Pass ⟨0, 0, 0, 0⟩)
abbrev s_law_draw : Stmt := top 34
abbrev s_law_change : Stmt := top 43
abbrev s_law_kind : Stmt := top 36
abbrev s_is_name : Stmt := top 26
abbrev s_parse_integer : Stmt := top 29
abbrev s_parse_item : Stmt := top 30
abbrev s_parse_score : Stmt := top 31
abbrev s_law_found : Stmt := top 45
abbrev s_law_has_long_number : Stmt := top 44
abbrev s_law_items : Stmt := top 35
abbrev s_law_menu_line : Stmt := top 46
abbrev s_law_notation : Stmt := top 38
abbrev s_law_integer : Stmt := top 40
abbrev s_law_is_name : Stmt := top 39
abbrev s_law_item : Stmt := top 41
abbrev s_law_parse : Stmt := top 42
abbrev s_law_same : Stmt := top 37
abbrev s_law_source : Stmt := top 33
abbrev s_law : Stmt := top 47
abbrev s_ParseError_i : Stmt := (VL.clsBody (top 19)).getD 0 (.Pass ⟨0, 0, 0, 0⟩)
abbrev s_NotReconstructible_i : Stmt := (VL.clsBody (top 18)).getD 0 (.Pass ⟨0, 0, 0, 0⟩)
def D_law_draw : He.DefD := ⟨("_law_draw", none), "_law_draw", "_law_draw", defArgs s_law_draw, defBody s_law_draw, defScope s_law_draw, [], []⟩
def D_law_change : He.DefD := ⟨("_law_change", none), "_law_change", "_law_change", defArgs s_law_change, defBody s_law_change, defScope s_law_change, [], []⟩
def D_law_kind : He.DefD := ⟨("_law_kind", none), "_law_kind", "_law_kind", defArgs s_law_kind, defBody s_law_kind, defScope s_law_kind, [], []⟩
def D_is_name : He.DefD := ⟨("is_name", none), "is_name", "is_name", defArgs s_is_name, defBody s_is_name, defScope s_is_name, [], []⟩
def D_parse_integer : He.DefD := ⟨("parse_integer", none), "parse_integer", "parse_integer", defArgs s_parse_integer, defBody s_parse_integer, defScope s_parse_integer, [], []⟩
def D_parse_item : He.DefD := ⟨("parse_item", none), "parse_item", "parse_item", defArgs s_parse_item, defBody s_parse_item, defScope s_parse_item, [], []⟩
def D_parse_score : He.DefD := ⟨("parse_score", none), "parse_score", "parse_score", defArgs s_parse_score, defBody s_parse_score, defScope s_parse_score, [], []⟩
def D_law_found : He.DefD := ⟨("_law_found", none), "_law_found", "_law_found", defArgs s_law_found, defBody s_law_found, defScope s_law_found, [], []⟩
def D_law_has_long_number : He.DefD := ⟨("_law_has_long_number", none), "_law_has_long_number", "_law_has_long_number", defArgs s_law_has_long_number, defBody s_law_has_long_number, defScope s_law_has_long_number, [], []⟩
def D_law_items : He.DefD := ⟨("_law_items", none), "_law_items", "_law_items", defArgs s_law_items, defBody s_law_items, defScope s_law_items, [], []⟩
def D_law_menu_line : He.DefD := ⟨("_law_menu_line", none), "_law_menu_line", "_law_menu_line", defArgs s_law_menu_line, defBody s_law_menu_line, defScope s_law_menu_line, [], []⟩
def D_law_notation : He.DefD := ⟨("_law_notation", none), "_law_notation", "_law_notation", defArgs s_law_notation, defBody s_law_notation, defScope s_law_notation, [], []⟩
def D_law_integer : He.DefD := ⟨("_law_integer", none), "_law_integer", "_law_integer", defArgs s_law_integer, defBody s_law_integer, defScope s_law_integer, [], []⟩
def D_law_is_name : He.DefD := ⟨("_law_is_name", none), "_law_is_name", "_law_is_name", defArgs s_law_is_name, defBody s_law_is_name, defScope s_law_is_name, [], []⟩
def D_law_item : He.DefD := ⟨("_law_item", none), "_law_item", "_law_item", defArgs s_law_item, defBody s_law_item, defScope s_law_item, [], []⟩
def D_law_parse : He.DefD := ⟨("_law_parse", none), "_law_parse", "_law_parse", defArgs s_law_parse, defBody s_law_parse, defScope s_law_parse, [], []⟩
def D_law_same : He.DefD := ⟨("_law_same", none), "_law_same", "_law_same", defArgs s_law_same, defBody s_law_same, defScope s_law_same, [], []⟩
def D_law_source : He.DefD := ⟨("_law_source", none), "_law_source", "_law_source", defArgs s_law_source, defBody s_law_source, defScope s_law_source, [], []⟩
def D_law : He.DefD := ⟨("law", none), "law", "law", defArgs s_law, defBody s_law, defScope s_law, [], []⟩
def D_NotReconstructible_i : He.DefD := ⟨("NotReconstructible", some "__init__"), "__init__", "NotReconstructible.__init__", defArgs s_NotReconstructible_i, defBody s_NotReconstructible_i, defScope s_NotReconstructible_i, [.non], []⟩
def D_ParseError_i : He.DefD := ⟨("ParseError", some "__init__"), "__init__", "ParseError.__init__", defArgs s_ParseError_i, defBody s_ParseError_i, defScope s_ParseError_i, [.non], []⟩
def fn : List He.DefD := [D_law_draw, D_law_change, D_law_kind, D_is_name, D_parse_integer, D_parse_item, D_parse_score, D_law_found, D_law_has_long_number, D_law_items, D_law_menu_line, D_law_notation, D_law_integer, D_law_is_name, D_law_item, D_law_parse, D_law_same, D_law_source, D_law, D_NotReconstructible_i, D_ParseError_i]
def fa : List He.Fa := [.glo "_law_draw", .glo "_law_change", .glo "_law_kind", .glo "is_name", .glo "parse_integer", .glo "parse_item", .glo "parse_score", .glo "_law_found", .glo "_law_has_long_number", .glo "_law_items", .glo "_law_menu_line", .glo "_law_notation", .glo "_law_integer", .glo "_law_is_name", .glo "_law_item", .glo "_law_parse", .glo "_law_same", .glo "_law_source", .glo "law", .free "ValueError", .free "abs", .free "all", .free "bool", .free "enumerate", .free "int", .free "isinstance", .free "len", .free "list", .free "max", .free "min", .free "range", .free "str", .free "tuple", .free "zip", .str "BAR" "bar", .str "DIGITS" "0123456789", .str "LETTERS" "abcdefghijklmnopqrstuvwxyz", .str "MARK" "mark", .int "MAX_NAME_LENGTH" 8, .str "REPEAT" "repeat", .glo "EndReached", .glo "InvalidBar", .glo "InvalidCommand", .glo "InvalidCount", .glo "InvalidPlayback", .glo "InvalidPosition", .glo "InvalidRepeat", .glo "InvalidScore", .glo "InvalidState", .glo "InvalidTime", .glo "InvalidWeights", .glo "LimitExceeded", .glo "NotReconstructible", .glo "NotSimple", .glo "ParseError", .glo "ScoreError", .glo "StartReached", .glo "UnknownMark", .glo "UnknownName"]
abbrev Rw : PySem.W.OpenRow := PySem.W.OpenLaw.row PySem.Challenge.rw_wornsigns_k56_parse_errors
def xb (K : PySem.W.Frag) : Bool := oiB K "NotReconstructible" && (oiB K "ParseError" && (exB K ["InvalidScore", "NotSimple", "InvalidBar", "InvalidTime", "InvalidCount", "UnknownName", "InvalidCommand", "ParseError"] ["EndReached", "InvalidBar", "InvalidCommand", "InvalidCount", "InvalidPlayback", "InvalidPosition", "InvalidRepeat", "InvalidScore", "InvalidState", "InvalidTime", "InvalidWeights", "LimitExceeded", "NotReconstructible", "NotSimple", "ParseError", "StartReached", "UnknownMark", "UnknownName"]))
abbrev hk : PySem.W.Hook := hookE 4 fa fn xb
def ob (s : PySem.W.SharedT) : Bool × He.AlD := obsE 4 fa fn xb (HandSHeadRun.getT s)
theorem ob_eq (s : PySem.W.SharedT) : ob s = hk.obs s.abs := obsE_eq (HandSHeadRun.getT_eq s)
def loose0 : List PySem.Str := ["ScoreError", "InvalidScore", "InvalidRepeat", "InvalidBar", "UnknownMark", "InvalidPosition", "InvalidTime", "InvalidState", "InvalidCount", "InvalidWeights", "NotSimple", "InvalidPlayback", "LimitExceeded", "EndReached", "StartReached", "InvalidCommand", "UnknownName", "NotReconstructible", "ParseError", "LETTERS", "MAX_NAME_LENGTH", "BAR", "MARK", "REPEAT", "is_name", "DIGITS", "parse_integer", "parse_item", "parse_score", "_law_source"]
def loose1 : List PySem.Str := ["_law_draw", "_law_items", "_law_kind", "_law_same", "_law_notation", "_law_is_name", "_law_integer", "_law_item", "_law_parse", "_law_change", "_law_has_long_number", "_law_found", "_law_menu_line"]
def loose : List PySem.Str := loose0 ++ loose1
theorem run (w : World) : HandSHeadRun.RunEq Rw (PySem.W.view Rw.prog [47]) hk ob 12000 loose w := by
  intro os
  kernel_rfl
end K56

set_option Elab.async false
set_option linter.all false
set_option maxRecDepth 100000
namespace VL
open PySem L2

abbrev St := L2.St
abbrev D := PyData
abbrev Fg := PySem.W.Frag

def Ext (H H' : Hp) : Prop := ∀ a o, H a = some o → H' a = some o
theorem Ext.refl (H : Hp) : Ext H H := fun _ _ h => h
theorem Ext.trans {H H1 H2 : Hp} (a : Ext H H1) (b : Ext H1 H2) : Ext H H2 := fun x o h => b x o (a x o h)
theorem Ext.none_of {H H' : Hp} (e : Ext H H') {a : Addr} (h : H' a = none) : H a = none := by
  cases q : H a with
  | none => rfl
  | some o => rw [e a o q] at h; cases h
theorem Ext.new {H : Hp} {p : Addr} {o : HO} (h : H p = none) : Ext H (upd H p o) := fun a u e => by
  rw [upd_ne (ne_of_none e h)]; exact e
theorem Ext.rd {H H' : Hp} {a : Addr} {u : HO} (e : Ext H H') (h : Rd H a u) : Rd H' a u := by
  rcases h with h | ⟨o, h⟩
  · exact .inl (e a _ h)
  · exact .inr ⟨o, e a _ h⟩
theorem Ext.sqL {K : Fg} {H H' : Hp} {a : Addr} {xs : List V} (e : Ext H H') (h : SqL K H a xs) : SqL K H' a xs := by
  rcases h with h | h
  · exact .inl (e.rd h)
  · exact .inr h
theorem Ext.sqT {K : Fg} {H H' : Hp} {a : Addr} {xs : List V} (e : Ext H H') (h : SqT K H a xs) : SqT K H' a xs := by
  rcases h with h | h
  · exact .inl (e.rd h)
  · exact .inr h

def kD : Key → D
  | .inl i => .int i
  | .inr x => .str x

mutual
inductive Rep (K : Fg) (H : Hp) : V → D → Prop
  | non : Rep K H .non .none
  | bl (b : Bool) : Rep K H (.bl b) (.bool b)
  | int (i : Int) : Rep K H (.int i) (.int i)
  | str (x : Str) : Rep K H (.str x) (.str x)
  | lst {a : Addr} {xs : List V} {ds : List D} : H a = some (.lst xs) → Reps K H xs ds → Rep K H (.ref a) (.list ds)
  | tup {a : Addr} {xs : List V} {ds : List D} : H a = some (.tup xs) → Reps K H xs ds → Rep K H (.ref a) (.tuple ds)
  | dct {a : Addr} {kvs : List (Key × V)} {ps : List (D × D)} : Rd H a (.dK kvs) → RepKV K H kvs ps → Rep K H (.ref a) (.dict ps)
inductive Reps (K : Fg) (H : Hp) : List V → List D → Prop
  | nil : Reps K H [] []
  | cons {v : V} {vs : List V} {d : D} {ds : List D} : Rep K H v d → Reps K H vs ds → Reps K H (v :: vs) (d :: ds)
inductive RepKV (K : Fg) (H : Hp) : List (Key × V) → List (D × D) → Prop
  | nil : RepKV K H [] []
  | cons {k : Key} {v : V} {kvs : List (Key × V)} {d : D} {ps : List (D × D)} : Rep K H v d → RepKV K H kvs ps → RepKV K H ((k, v) :: kvs) ((kD k, d) :: ps)
end

section
variable {K : Fg} {H H' : Hp}
mutual
theorem Rep.mono (e : Ext H H') : ∀ {v : V} {d : D}, Rep K H v d → Rep K H' v d
  | _, _, .non => .non
  | _, _, .bl b => .bl b
  | _, _, .int i => .int i
  | _, _, .str x => .str x
  | _, _, .lst h r => .lst (e _ _ h) (Reps.mono e r)
  | _, _, .tup h r => .tup (e _ _ h) (Reps.mono e r)
  | _, _, .dct h r => .dct (e.rd h) (RepKV.mono e r)
theorem Reps.mono (e : Ext H H') : ∀ {vs : List V} {ds : List D}, Reps K H vs ds → Reps K H' vs ds
  | _, _, .nil => .nil
  | _, _, .cons h r => .cons (Rep.mono e h) (Reps.mono e r)
theorem RepKV.mono (e : Ext H H') : ∀ {kvs : List (Key × V)} {ps : List (D × D)}, RepKV K H kvs ps → RepKV K H' kvs ps
  | _, _, .nil => .nil
  | _, _, .cons h r => .cons (Rep.mono e h) (RepKV.mono e r)
end
theorem Reps.length : ∀ {vs : List V} {ds : List D}, Reps K H vs ds → vs.length = ds.length
  | _, _, .nil => rfl
  | _, _, .cons _ r => congrArg (· + 1) (Reps.length r)
theorem Reps.get : ∀ {vs : List V} {ds : List D} {i : Nat} {d : D}, Reps K H vs ds → ds[i]? = some d → ∃ v, vs[i]? = some v ∧ Rep K H v d
  | _, _, _, _, .nil, e => by simp at e
  | _, _, 0, _, .cons h _, e => by simp at e; subst e; exact ⟨_, rfl, h⟩
  | _, _, i + 1, d, .cons _ r, e => by
    obtain ⟨v, h1, h2⟩ := Reps.get (i := i) (d := d) r (by simpa using e)
    exact ⟨v, by simpa using h1, h2⟩
theorem Reps.get' : ∀ {vs : List V} {ds : List D} {i : Nat} {v : V}, Reps K H vs ds → vs[i]? = some v → ∃ d, ds[i]? = some d ∧ Rep K H v d
  | _, _, _, _, .nil, e => by simp at e
  | _, _, 0, _, .cons h _, e => by simp at e; subst e; exact ⟨_, rfl, h⟩
  | _, _, i + 1, d, .cons _ r, e => by
    obtain ⟨v, h1, h2⟩ := Reps.get' (i := i) (v := d) r (by simpa using e)
    exact ⟨v, by simpa using h1, h2⟩
theorem Reps.append : ∀ {vs ws : List V} {ds es : List D}, Reps K H vs ds → Reps K H ws es → Reps K H (vs ++ ws) (ds ++ es)
  | _, _, _, _, .nil, s => s
  | _, _, _, _, .cons h r, s => .cons h (Reps.append r s)
theorem Reps.one {v : V} {d : D} (h : Rep K H v d) : Reps K H [v] [d] := .cons h .nil
theorem Reps.take : ∀ {vs : List V} {ds : List D} (n : Nat), Reps K H vs ds → Reps K H (vs.take n) (ds.take n)
  | _, _, 0, _ => .nil
  | _, _, _ + 1, .nil => .nil
  | _, _, n + 1, .cons h r => .cons h (Reps.take n r)
theorem Reps.drop : ∀ {vs : List V} {ds : List D} (n : Nat), Reps K H vs ds → Reps K H (vs.drop n) (ds.drop n)
  | _, _, 0, r => r
  | _, _, _ + 1, .nil => .nil
  | _, _, n + 1, .cons _ r => Reps.drop n r
theorem Reps.reverse : ∀ {vs : List V} {ds : List D}, Reps K H vs ds → Reps K H vs.reverse ds.reverse
  | _, _, .nil => .nil
  | _, _, .cons h r => by
    rw [List.reverse_cons, List.reverse_cons]
    exact (Reps.reverse r).append (.one h)
theorem Reps.set {v : V} {d : D} (h : Rep K H v d) : ∀ {vs : List V} {ds : List D} (i : Nat), Reps K H vs ds → Reps K H (vs.set i v) (ds.set i d)
  | _, _, _, .nil => .nil
  | _, _, 0, .cons _ r => .cons h r
  | _, _, i + 1, .cons q r => .cons q (Reps.set h i r)
theorem Reps.eraseIdx : ∀ {vs : List V} {ds : List D} (i : Nat), Reps K H vs ds → Reps K H (vs.eraseIdx i) (ds.eraseIdx i)
  | _, _, _, .nil => .nil
  | _, _, 0, .cons _ r => r
  | _, _, i + 1, .cons q r => .cons q (Reps.eraseIdx i r)
theorem Reps.dropLast {vs : List V} {ds : List D} (r : Reps K H vs ds) : Reps K H vs.dropLast ds.dropLast := by
  rw [List.dropLast_eq_take, List.dropLast_eq_take, r.length]
  exact r.take _
theorem Reps.repl {vs : List V} {ds : List D} (r : Reps K H vs ds) : ∀ k : Nat, Reps K H (List.replicate k vs).flatten (List.replicate k ds).flatten
  | 0 => .nil
  | k + 1 => by
    rw [List.replicate_succ, List.replicate_succ, List.flatten_cons, List.flatten_cons]
    exact r.append (Reps.repl r k)
end

inductive Sl where
  | no
  | sh (d : D)
  | ow (d : D)
  | io (d : D)
  | op (t : Nat) (d : D)
  /-- two things handed in together (in a promise alone, no slot is one) -/
  | two (a b : Sl)
abbrev Ev := List Sl

def swp (H : Hp) (a : Addr) (o : HO) : Hp := fun b => if b = a then (H a).map (fun _ => o) else H b
theorem swp_ne {H : Hp} {a b : Addr} {o : HO} (h : b ≠ a) : swp H a o b = H b := if_neg h
theorem swp_at {H : Hp} {a : Addr} {o u : HO} (h : H a = some u) : swp H a o a = some o := by
  unfold swp
  rw [if_pos rfl, h]; rfl
theorem swp_none {H : Hp} {a : Addr} {o : HO} (h : H a = none) : swp H a o a = none := by
  unfold swp
  rw [if_pos rfl, h]; rfl
theorem swp_some {H : Hp} {a b : Addr} {o v : HO} (h : swp H a o b = some v) : (b = a ∧ v = o ∧ ∃ u, H a = some u) ∨ (b ≠ a ∧ H b = some v) := by
  by_cases z : b = a
  · subst z
    unfold swp at h
    rw [if_pos rfl] at h
    cases e : H b with
    | none => rw [e] at h; cases h
    | some u => rw [e] at h; cases h; exact .inl ⟨rfl, rfl, u, rfl⟩
  · rw [swp_ne z] at h
    exact .inr ⟨z, h⟩
def Dual (kvs : List (Key × V)) (u u' : HO) : Prop := (u = .dK kvs ∨ ∃ od, u = .frz od (.dK kvs)) ∧ (u' = .dK kvs ∨ ∃ od, u' = .frz od (.dK kvs))
section
variable {K : Fg} {Hi H : Hp} {a : Addr} {u u' : HO} {kvs : List (Key × V)}
theorem Rd.swp {b : Addr} {ks : List (Key × V)} (ha : Hi a = some u) (d : Dual kvs u u') (h : Rd Hi b (.dK ks)) : Rd (swp Hi a u') b (.dK ks) := by
  by_cases z : b = a
  · subst z
    have e : kvs = ks := by
      rcases h with h | ⟨o, h⟩ <;> rcases d.1 with d1 | ⟨od, d1⟩ <;> rw [ha, d1] at h <;> cases h <;> rfl
    subst e
    rcases d.2 with d2 | ⟨od, d2⟩
    · exact .inl (by rw [swp_at ha, d2])
    · exact .inr ⟨od, by rw [swp_at ha, d2]⟩
  · rcases h with h | ⟨o, h⟩
    · exact .inl (by rw [swp_ne z]; exact h)
    · exact .inr ⟨o, by rw [swp_ne z]; exact h⟩
theorem swp_lst {b : Addr} {xs : List V} (ha : Hi a = some u) (d : Dual kvs u u') (h : Hi b = some (.lst xs)) : swp Hi a u' b = some (.lst xs) := by
  have : b ≠ a := fun z => by
    subst z
    rcases d.1 with d1 | ⟨od, d1⟩ <;> rw [ha, d1] at h <;> cases h
  rw [swp_ne this]; exact h
theorem swp_tup {b : Addr} {xs : List V} (ha : Hi a = some u) (d : Dual kvs u u') (h : Hi b = some (.tup xs)) : swp Hi a u' b = some (.tup xs) := by
  have : b ≠ a := fun z => by
    subst z
    rcases d.1 with d1 | ⟨od, d1⟩ <;> rw [ha, d1] at h <;> cases h
  rw [swp_ne this]; exact h
mutual
theorem Rep.swp (ha : Hi a = some u) (e : Dual kvs u u') : ∀ {v : V} {d : D}, Rep K Hi v d → Rep K (swp Hi a u') v d
  | _, _, .non => .non
  | _, _, .bl b => .bl b
  | _, _, .int i => .int i
  | _, _, .str x => .str x
  | _, _, .lst h r => .lst (swp_lst ha e h) (Reps.swp ha e r)
  | _, _, .tup h r => .tup (swp_tup ha e h) (Reps.swp ha e r)
  | _, _, .dct h r => .dct (Rd.swp ha e h) (RepKV.swp ha e r)
theorem Reps.swp (ha : Hi a = some u) (e : Dual kvs u u') : ∀ {vs : List V} {ds : List D}, Reps K Hi vs ds → Reps K (swp Hi a u') vs ds
  | _, _, .nil => .nil
  | _, _, .cons h r => .cons (Rep.swp ha e h) (Reps.swp ha e r)
theorem RepKV.swp (ha : Hi a = some u) (e : Dual kvs u u') : ∀ {ks : List (Key × V)} {ps : List (D × D)}, RepKV K Hi ks ps → RepKV K (swp Hi a u') ks ps
  | _, _, .nil => .nil
  | _, _, .cons h r => .cons (Rep.swp ha e h) (RepKV.swp ha e r)
end
end
structure OpSem where
  ok : Nat → D → Hp → Hp → Addr → List Addr → Prop
  loc : ∀ {t d Hi Hi' H H' p fp}, ok t d Hi H p fp → Ext Hi Hi' → (∀ a ∈ fp, H' a = H a) → ok t d Hi' H' p fp
  trk : ∀ {t d Hi H p fp}, ok t d Hi H p fp → ∀ a ∈ fp, ∃ o, H a = some o
  /-- a dict's cell is locked, opened -/
  swp : ∀ {t d Hi H p fp a u u' kvs}, ok t d Hi H p fp → Hi a = some u → Dual kvs u u' → (∀ b ∈ fp, b ≠ a) → ok t d (swp Hi a u') (swp H a u') p fp
  /-- a thing made in this def has its kind + 10 -/
  hnd : ∀ {t d Hi H p fp}, ok t d Hi H p fp ↔ ok (t % 10) d Hi H p fp

structure Gb where
  K : Fg
  Op : OpSem
  ca : Str → Addr
structure Exn where
  name : Str
  idx : Option V
def Gb.xr (G : Gb) (x : Exn) (c : Value) (d : Option Addr) (Hi : Hp) : Prop :=
  c = .ref (G.ca x.name) ∧ match x.idx with
    | none => d = none
    | some v => ∃ dx, d = some dx ∧ Hi dx = some (.xd [(("index" : Str), v)])
theorem xr_none {G : Gb} {x : Exn} {c : Value} {d : Option Addr} {Hi Hi' : Hp} (h : x.idx = none) (hx : G.xr x c d Hi) : G.xr x c d Hi' := by
  obtain ⟨h1, h2⟩ := hx
  rw [h] at h2
  exact ⟨h1, by rw [h]; exact h2⟩
structure Cf where
  H0 : Hp
  I0 : Hp
  io : Addr → Prop
  iot : ∀ a, io a → H0 a ≠ none
  /-- where the opaque thing of a kind stands, if it was handed in -/
  pa : Nat → Option Addr

inductive Own (K : Fg) (Hi H : Hp) : Addr → D → Prop
  | lst {p : Addr} {xs : List V} {ds : List D} : H p = some (.lst xs) → Reps K Hi xs ds → Own K Hi H p (.list ds)
  | dct {p : Addr} {kvs : List (Key × V)} {ps : List (D × D)} : H p = some (.dK kvs) → RepKV K Hi kvs ps → Own K Hi H p (.dict ps)
theorem Own.trk {K : Fg} {Hi H : Hp} {p : Addr} {d : D} (h : Own K Hi H p d) : ∃ o, H p = some o := by
  cases h with
  | lst h _ => exact ⟨_, h⟩
  | dct h _ => exact ⟨_, h⟩
theorem Own.to {K : Fg} {Hi Hi' H H' : Hp} {p : Addr} {d : D} (h : Own K Hi H p d) (e : Ext Hi Hi') (k : H' p = H p) : Own K Hi' H' p d := by
  cases h with
  | lst h r => exact .lst (by rw [k]; exact h) (r.mono e)
  | dct h r => exact .dct (by rw [k]; exact h) (r.mono e)
theorem Own.rep {K : Fg} {Hi H : Hp} {p : Addr} {d : D} {o : HO} (h : Own K Hi H p d) (ho : H p = some o) (hn : Hi p = none) : Rep K (upd Hi p o) (.ref p) d := by
  cases h with
  | lst h r => rw [ho] at h; cases h; exact .lst upd_same (r.mono (Ext.new hn))
  | dct h r => rw [ho] at h; cases h; exact .dct (.inl upd_same) (r.mono (Ext.new hn))

def SlOk (G : Gb) (C : Cf) (Hi H : Hp) (x : Option V) (fp : List Addr) : Sl → Prop
  | .no => fp = []
  | .sh d => fp = [] ∧ ∃ v, x = some v ∧ Rep G.K Hi v d
  | .ow d => ∃ p, fp = [p] ∧ x = some (.ref p) ∧ Own G.K Hi H p d ∧ C.H0 p = none
  | .io d => ∃ p, fp = [p] ∧ x = some (.ref p) ∧ Own G.K Hi H p d ∧ C.io p ∧ ∀ q, C.pa 100 = some q → p = q
  | .op t d => ∃ p, x = some (.ref p) ∧ G.Op.ok t d Hi H p fp ∧ (∀ a ∈ fp, C.H0 a = none ∨ (t < 10 ∧ C.io a)) ∧ ∀ q, t < 10 → C.pa t = some q → p = q
  | .two _ _ => False

structure Core (G : Gb) (C : Cf) (Hi : Hp) (σ : St) (H : Hp) (Γ : Ev) (fp : Nat → List Addr) : Prop where
  frame : ∀ a o, C.H0 a = some o → ¬ C.io a → H a = some o
  live : ∀ a, C.H0 a ≠ none → H a ≠ none
  imm : Ext Hi H
  base : Ext C.I0 Hi
  ov : ∀ a o, Hi a = some o → C.I0 a = some o ∨ C.H0 a = none
  len : Γ.length = σ.length
  sl : ∀ i s, Γ[i]? = some s → ∃ x, σ[i]? = some x ∧ SlOk G C Hi H x (fp i) s
  dj : ∀ i j a, i < Γ.length → j < Γ.length → a ∈ fp i → a ∈ fp j → i = j
  av : ∀ i a, i < Γ.length → a ∈ fp i → Hi a = none
def Rel (G : Gb) (C : Cf) (Hi : Hp) (σ : St) (H : Hp) (Γ : Ev) : Prop := ∃ fp, Core G C Hi σ H Γ fp

section
variable {G : Gb} {C : Cf} {Hi Hi' H H' : Hp} {σ : St} {Γ : Ev} {fp : Nat → List Addr}
theorem SlOk.to {x : Option V} {l : List Addr} {s : Sl} (h : SlOk G C Hi H x l s) (e : Ext Hi Hi') (k : ∀ a ∈ l, H' a = H a) : SlOk G C Hi' H' x l s := by
  cases s with
  | no => exact h
  | sh d => obtain ⟨h0, v, h1, h2⟩ := h; exact ⟨h0, v, h1, h2.mono e⟩
  | ow d => obtain ⟨p, h0, h1, h2, h3⟩ := h; exact ⟨p, h0, h1, h2.to e (k p (by rw [h0]; simp)), h3⟩
  | io d => obtain ⟨p, h0, h1, h2, h3⟩ := h; exact ⟨p, h0, h1, h2.to e (k p (by rw [h0]; simp)), h3⟩
  | op t d => obtain ⟨p, h1, h2, h3⟩ := h; exact ⟨p, h1, G.Op.loc h2 e k, h3⟩
  | two a b => exact h.elim
theorem SlOk.trk {x : Option V} {l : List Addr} {s : Sl} (h : SlOk G C Hi H x l s) : ∀ a ∈ l, ∃ o, H a = some o := by
  cases s with
  | no => intro a ha; rw [show l = [] from h] at ha; cases ha
  | sh d => obtain ⟨h0, _⟩ := h; intro a ha; rw [h0] at ha; cases ha
  | ow d =>
    obtain ⟨p, h0, h1, h2, _⟩ := h; intro a ha
    rw [h0] at ha
    have : a = p := by simpa using ha
    subst this; exact h2.trk
  | io d =>
    obtain ⟨p, h0, h1, h2, _⟩ := h; intro a ha
    rw [h0] at ha
    have : a = p := by simpa using ha
    subst this; exact h2.trk
  | op t d => obtain ⟨p, h1, h2, _⟩ := h; exact G.Op.trk h2
  | two a b => exact h.elim
theorem SlOk.home {x : Option V} {l : List Addr} {s : Sl} (h : SlOk G C Hi H x l s) : ∀ a ∈ l, C.H0 a = none ∨ C.io a := by
  cases s with
  | no => intro a ha; rw [show l = [] from h] at ha; cases ha
  | sh d => obtain ⟨h0, _⟩ := h; intro a ha; rw [h0] at ha; cases ha
  | ow d =>
    obtain ⟨p, h0, h1, h2, h3⟩ := h; intro a ha
    rw [h0] at ha
    have : a = p := by simpa using ha
    subst this; exact .inl h3
  | io d =>
    obtain ⟨p, h0, h1, h2, h3⟩ := h; intro a ha
    rw [h0] at ha
    have : a = p := by simpa using ha
    subst this; exact .inr h3.1
  | op t d => obtain ⟨p, h1, h2, h3, _⟩ := h; exact fun a ha => (h3 a ha).imp id (·.2)
  | two a b => exact h.elim
theorem Core.trk (c : Core G C Hi σ H Γ fp) {i : Nat} {a : Addr} (hi : i < Γ.length) (ha : a ∈ fp i) : ∃ o, H a = some o := by
  obtain ⟨x, _, h⟩ := c.sl i _ (List.getElem?_eq_getElem hi)
  exact h.trk a ha
theorem Core.home (c : Core G C Hi σ H Γ fp) {i : Nat} {a : Addr} (hi : i < Γ.length) (ha : a ∈ fp i) : C.H0 a = none ∨ C.io a := by
  obtain ⟨x, _, h⟩ := c.sl i _ (List.getElem?_eq_getElem hi)
  exact h.home a ha
theorem Core.fresh (c : Core G C Hi σ H Γ fp) {p : Addr} (h : H p = none) : Hi p = none ∧ C.H0 p = none := by
  refine ⟨c.imm.none_of h, ?_⟩
  cases q : C.H0 p with
  | none => rfl
  | some o => exact absurd h (c.live p (by rw [q]; simp))
theorem Core.step {H' : Hp} {i : Nat} {x : Option V} {l : List Addr} {s : Sl} (c : Core G C Hi σ H Γ fp) (hi : i < Γ.length) (e : Ext Hi Hi')
    (k : ∀ a o, H a = some o → a ∉ fp i → H' a = some o) (lv : ∀ a, a ∈ fp i → H' a ≠ none) (im : Ext Hi' H') (ov : ∀ a o, Hi' a = some o → Hi a = some o ∨ C.H0 a = none)
    (sok : SlOk G C Hi' H' x l s) (nw : ∀ a ∈ l, Hi' a = none ∧ ∀ j, j < Γ.length → j ≠ i → a ∉ fp j) (no : ∀ j a, j < Γ.length → j ≠ i → a ∈ fp j → Hi' a = none) :
    Core G C Hi' (σ.set i x) H' (Γ.set i s) (fun j => if j = i then l else fp j) where
  frame := fun a o h n => by
    refine k a o (c.frame a o h n) fun ha => ?_
    rcases c.home hi ha with q | q
    · rw [h] at q; cases q
    · exact n q
  live := fun a h => by
    by_cases ha : a ∈ fp i
    · exact lv a ha
    · have := c.live a h
      cases q : H a with
      | none => exact absurd q this
      | some o => rw [k a o q ha]; simp
  imm := im
  base := c.base.trans e
  ov := fun a o h => by
    rcases ov a o h with q | q
    · exact c.ov a o q
    · exact .inr q
  len := by rw [List.length_set, List.length_set]; exact c.len
  sl := fun j s' h => by
    have hi' : i < σ.length := by rw [← c.len]; exact hi
    by_cases hj : j = i
    · subst hj
      rw [List.getElem?_set_self hi] at h
      cases h
      exact ⟨x, List.getElem?_set_self hi', by rw [if_pos rfl]; exact sok⟩
    · rw [List.getElem?_set_ne (Ne.symm hj)] at h
      obtain ⟨y, h1, h2⟩ := c.sl j s' h
      refine ⟨y, by rw [List.getElem?_set_ne (Ne.symm hj)]; exact h1, ?_⟩
      rw [if_neg hj]
      have hjl : j < Γ.length := (List.getElem?_eq_some_iff.mp h).1
      refine h2.to e fun a ha => ?_
      obtain ⟨o, ho⟩ := h2.trk a ha
      rw [ho]
      exact k a o ho fun z => hj (c.dj j i a hjl hi ha z)
  dj := fun j m a hj hm h1 h2 => by
    rw [List.length_set] at hj hm
    by_cases ej : j = i <;> by_cases em : m = i
    · rw [ej, em]
    · rw [if_pos ej] at h1; rw [if_neg em] at h2
      exact absurd h2 ((nw a h1).2 m hm em)
    · rw [if_neg ej] at h1; rw [if_pos em] at h2
      exact absurd h1 ((nw a h2).2 j hj ej)
    · rw [if_neg ej] at h1; rw [if_neg em] at h2
      exact c.dj j m a hj hm h1 h2
  av := fun j a hj h => by
    rw [List.length_set] at hj
    by_cases ej : j = i
    · rw [if_pos ej] at h; exact (nw a h).1
    · rw [if_neg ej] at h; exact no j a hj ej h
theorem Core.put {i : Nat} {x : Option V} {l : List Addr} {s : Sl} (c : Core G C Hi σ H Γ fp) (hi : i < Γ.length) (sok : SlOk G C Hi H x l s)
    (nw : ∀ a ∈ l, Hi a = none ∧ ∀ j, j < Γ.length → j ≠ i → a ∉ fp j) : Core G C Hi (σ.set i x) H (Γ.set i s) (fun j => if j = i then l else fp j) :=
  c.step hi (Ext.refl _) (fun _ _ h _ => h) (fun a ha => by obtain ⟨o, h⟩ := c.trk hi ha; rw [h]; simp) c.imm (fun _ _ h => .inl h) sok nw fun j a hj _ h => c.av j a hj h
theorem Rel.put_sh {i : Nat} {v : V} {d : D} (c : Rel G C Hi σ H Γ) (hi : i < Γ.length) (r : Rep G.K Hi v d) : Rel G C Hi (σ.set i (some v)) H (Γ.set i (.sh d)) :=
  let ⟨_, c⟩ := c
  ⟨_, c.put (l := []) hi ⟨rfl, v, rfl, r⟩ fun a ha => nomatch ha⟩
theorem Rel.put_no {i : Nat} {x : Option V} (c : Rel G C Hi σ H Γ) (hi : i < Γ.length) : Rel G C Hi (σ.set i x) H (Γ.set i .no) :=
  let ⟨_, c⟩ := c
  ⟨_, c.put (l := []) hi rfl fun a ha => nomatch ha⟩
theorem Core.push {x : Option V} {l : List Addr} {s : Sl} (c : Core G C Hi σ H Γ fp) (k : Ext H H') (sok : SlOk G C Hi H' x l s) (nw : ∀ a ∈ l, H a = none) :
    Core G C Hi (σ ++ [x]) H' (Γ ++ [s]) (fun j => if j = Γ.length then l else fp j) where
  frame := fun a o h n => k a o (c.frame a o h n)
  live := fun a h => by
    cases q : H a with
    | none => exact absurd q (c.live a h)
    | some o => rw [k a o q]; simp
  imm := c.imm.trans k
  base := c.base
  ov := c.ov
  len := by simp [c.len]
  sl := fun j s' h => by
    by_cases hj : j < Γ.length
    · rw [List.getElem?_append_left hj] at h
      obtain ⟨y, h1, h2⟩ := c.sl j s' h
      refine ⟨y, by rw [List.getElem?_append_left (by rw [← c.len]; exact hj)]; exact h1, ?_⟩
      rw [if_neg (Nat.ne_of_lt hj)]
      refine h2.to (Ext.refl _) fun a ha => ?_
      obtain ⟨o, ho⟩ := h2.trk a ha
      rw [ho]; exact k a o ho
    · rw [List.getElem?_append_right (Nat.le_of_not_lt hj)] at h
      have hj0 : j - Γ.length = 0 := by
        have := (List.getElem?_eq_some_iff.mp h).1
        simp at this; omega
      rw [hj0] at h
      simp at h; subst h
      have : j = Γ.length := by omega
      subst this
      refine ⟨x, by rw [c.len]; simp, ?_⟩
      rw [if_pos rfl]; exact sok
  dj := fun j m a hj hm h1 h2 => by
    simp at hj hm
    by_cases ej : j = Γ.length <;> by_cases em : m = Γ.length
    · rw [ej, em]
    · rw [if_pos ej] at h1; rw [if_neg em] at h2
      obtain ⟨o, ho⟩ := c.trk (show m < Γ.length by omega) h2
      rw [nw a h1] at ho; cases ho
    · rw [if_neg ej] at h1; rw [if_pos em] at h2
      obtain ⟨o, ho⟩ := c.trk (show j < Γ.length by omega) h1
      rw [nw a h2] at ho; cases ho
    · rw [if_neg ej] at h1; rw [if_neg em] at h2
      exact c.dj j m a (by omega) (by omega) h1 h2
  av := fun j a hj h => by
    simp at hj
    by_cases ej : j = Γ.length
    · rw [if_pos ej] at h; exact c.imm.none_of (nw a h)
    · rw [if_neg ej] at h; exact c.av j a (by omega) h
theorem Rel.alloc {p : Addr} {o : HO} {d : D} (c : Rel G C Hi σ H Γ) (hp : H p = none) (ow : Own G.K Hi (upd H p o) p d) : Rel G C Hi (σ ++ [some (.ref p)]) (upd H p o) (Γ ++ [.ow d]) :=
  let ⟨_, c⟩ := c
  ⟨_, c.push (l := [p]) (Ext.new hp) ⟨p, rfl, rfl, ow, (c.fresh hp).2⟩ fun a ha => by
    have : a = p := by simpa using ha
    rw [this]; exact hp⟩
theorem Rel.trunc {σ2 : St} {Γ2 : Ev} (c : Rel G C Hi (σ ++ σ2) H (Γ ++ Γ2)) (hl : Γ.length = σ.length) : Rel G C Hi σ H Γ := by
  obtain ⟨fp, c⟩ := c
  refine ⟨fp, c.frame, c.live, c.imm, c.base, c.ov, hl, fun j s h => ?_, fun i j a hi hj => c.dj i j a (by simp; omega) (by simp; omega), fun i a hi => c.av i a (by simp; omega)⟩
  have hj : j < Γ.length := (List.getElem?_eq_some_iff.mp h).1
  obtain ⟨x, h1, h2⟩ := c.sl j s (by rw [List.getElem?_append_left hj]; exact h)
  exact ⟨x, by rw [List.getElem?_append_left (by omega)] at h1; exact h1, h2⟩
theorem Rel.freeze {i : Nat} {d : D} (c : Rel G C Hi σ H Γ) (h : Γ[i]? = some (.ow d)) : ∃ Hi', Ext Hi Hi' ∧ Rel G C Hi' σ H (Γ.set i (.sh d)) := by
  obtain ⟨fp, c⟩ := c
  obtain ⟨x, hx, p, hf, e, ow, h0⟩ := c.sl i _ h
  have hi : i < Γ.length := (List.getElem?_eq_some_iff.mp h).1
  have hin : Hi p = none := c.av i p hi (by rw [hf]; simp)
  obtain ⟨o, ho⟩ := ow.trk
  have ex : Ext Hi (upd Hi p o) := Ext.new hin
  refine ⟨upd Hi p o, ex, ?_⟩
  have hs : σ.set i x = σ := by
    obtain ⟨hl, e1⟩ := List.getElem?_eq_some_iff.mp hx
    rw [← e1]; exact List.set_getElem_self hl
  have st := c.step (H' := H) (Hi' := upd Hi p o) (x := x) (l := []) (s := .sh d) hi ex (fun a o' h _ => h) (fun a ha => by obtain ⟨o', h'⟩ := c.trk hi ha; rw [h']; simp)
    (fun a u hu => by
      by_cases ha : a = p
      · subst ha; rw [upd_same] at hu; cases hu; exact ho
      · rw [upd_ne ha] at hu; exact c.imm a u hu)
    (fun a u hu => by
      by_cases ha : a = p
      · subst ha; exact .inr h0
      · rw [upd_ne ha] at hu; exact .inl hu)
    ⟨rfl, .ref p, e, ow.rep ho hin⟩ (fun a ha => nomatch ha)
    (fun j a hj hne ha => by
      have : a ≠ p := fun z => hne (c.dj j i a hj hi ha (by rw [hf, z]; simp))
      rw [upd_ne this]; exact c.av j a hj ha)
  rw [hs] at st
  exact ⟨_, st⟩
end

inductive R where
  | sh (d : D)
  | ow (d : D)
  | vr (i : Nat)
  | op (t : Nat) (d : D)
def rdW (r : R) (Γ : Ev) (k : D → Prop) : Prop := match r with
  | .sh d => k d
  | .ow d => k d
  | .vr i => match Γ[i]? with
    | some (.sh d) => k d
    | some (.ow d) => k d
    | some (.io d) => k d
    | _ => False
  | .op _ _ => False
def frW (r : R) (Γ : Ev) (k : D → Ev → Prop) : Prop := match r with
  | .sh d => k d Γ
  | .ow d => k d Γ
  | .vr i => match Γ[i]? with
    | some (.sh d) => k d Γ
    | some (.ow d) => k d (Γ.set i (.sh d))
    | _ => False
  | .op _ _ => False
abbrev XW := Exn → Ev → Prop
abbrev WE := Ev → (R → Ev → Prop) → XW → Prop
abbrev WT := Ev → (Bool → Ev → Prop) → XW → Prop
abbrev WA := Ev → (List R → Ev → Prop) → XW → Prop
structure WD where
  nx : Ev → Prop
  rt : R → Ev → Prop
  bk : Ev → Prop
  ct : Ev → Prop
abbrev WS := Ev → WD → XW → Prop

def Out (G : Gb) (C : Cf) (Hi : Hp) (σ : St) (H : Hp) (Γ : Ev) (v : V) : R → Prop
  | .sh d => Rel G C Hi σ H Γ ∧ Rep G.K Hi v d
  | .ow d => Γ.length = σ.length ∧ Rel G C Hi (σ ++ [some v]) H (Γ ++ [.ow d])
  | .vr i => Rel G C Hi σ H Γ ∧ σ[i]? = some (some v)
  | .op t d => Γ.length = σ.length ∧ Rel G C Hi (σ ++ [some v]) H (Γ ++ [.op t d])
def Hold (G : Gb) (Hi : Hp) (σ : St) (v : V) : R → Prop
  | .sh d => Rep G.K Hi v d
  | .ow d => Rep G.K Hi v d
  | .vr i => σ[i]? = some (some v)
  | .op _ _ => True
def Rdb (K : Fg) (Hi H : Hp) (v : V) (d : D) : Prop := Rep K Hi v d ∨ ∃ p, v = .ref p ∧ Own K Hi H p d

section
variable {G : Gb} {C : Cf} {Hi Hi' H H' : Hp} {σ : St} {Γ : Ev} {v : V} {r : R}
theorem Rel.len (c : Rel G C Hi σ H Γ) : Γ.length = σ.length := let ⟨_, c⟩ := c; c.len
theorem Rel.imm (c : Rel G C Hi σ H Γ) : Ext Hi H := let ⟨_, c⟩ := c; c.imm
theorem Hold.mono (h : Hold G Hi σ v r) (e : Ext Hi Hi') : Hold G Hi' σ v r := by
  cases r with
  | sh d => exact Rep.mono e h
  | ow d => exact Rep.mono e h
  | vr i => exact h
  | op t d => trivial
theorem Rel.settle {d : D} (hl : Γ.length = σ.length) (c : Rel G C Hi (σ ++ [some v]) H (Γ ++ [.ow d])) : ∃ Hi', Ext Hi Hi' ∧ Rel G C Hi' σ H Γ ∧ Rep G.K Hi' v d := by
  obtain ⟨Hi', e, c'⟩ := Rel.freeze (i := Γ.length) (d := d) c (by simp)
  have e1 : (Γ ++ [Sl.ow d]).set Γ.length (.sh d) = Γ ++ [.sh d] := by simp
  rw [e1] at c'
  refine ⟨Hi', e, c'.trunc hl, ?_⟩
  obtain ⟨fp, c'⟩ := c'
  obtain ⟨x, hx, _, w, hw, rw'⟩ := c'.sl Γ.length (.sh d) (by simp)
  have : x = some v := by
    rw [hl] at hx
    simpa using hx.symm
  rw [this] at hw; cases hw; exact rw'
theorem Out.hold (o : Out G C Hi σ H Γ v r) : ∃ Hi', Ext Hi Hi' ∧ Rel G C Hi' σ H Γ ∧ Hold G Hi' σ v r := by
  cases r with
  | sh d => exact ⟨Hi, Ext.refl _, o.1, o.2⟩
  | vr i => exact ⟨Hi, Ext.refl _, o.1, o.2⟩
  | op t d => exact ⟨Hi, Ext.refl _, o.2.trunc o.1, trivial⟩
  | ow d =>
    obtain ⟨Hi', e, c, h⟩ := Rel.settle o.1 o.2
    exact ⟨Hi', e, c, h⟩
theorem Rel.at_ow (c : Rel G C Hi σ H Γ) {i : Nat} {d : D} (h : Γ[i]? = some (.ow d)) : ∃ p, σ[i]? = some (some (.ref p)) ∧ Own G.K Hi H p d := by
  obtain ⟨fp, c⟩ := c
  obtain ⟨x, hx, p, _, e, ow, _⟩ := c.sl i _ h
  exact ⟨p, by rw [hx, e], ow⟩
theorem Rel.at_io (c : Rel G C Hi σ H Γ) {i : Nat} {d : D} (h : Γ[i]? = some (.io d)) : ∃ p, σ[i]? = some (some (.ref p)) ∧ Own G.K Hi H p d := by
  obtain ⟨fp, c⟩ := c
  obtain ⟨x, hx, p, _, e, ow, _⟩ := c.sl i _ h
  exact ⟨p, by rw [hx, e], ow⟩
theorem Rel.at_sh (c : Rel G C Hi σ H Γ) {i : Nat} {d : D} (h : Γ[i]? = some (.sh d)) : ∃ v, σ[i]? = some (some v) ∧ Rep G.K Hi v d := by
  obtain ⟨fp, c⟩ := c
  obtain ⟨x, hx, _, v, e, r⟩ := c.sl i _ h
  exact ⟨v, by rw [hx, e], r⟩
theorem Hold.read {k : D → Prop} (c : Rel G C Hi σ H Γ) (h : Hold G Hi σ v r) (q : rdW r Γ k) : ∃ d, Rdb G.K Hi H v d ∧ k d := by
  cases r with
  | sh d => exact ⟨d, .inl h, q⟩
  | ow d => exact ⟨d, .inl h, q⟩
  | vr i =>
    have h : σ[i]? = some (some v) := h
    unfold rdW at q
    dsimp only at q
    split at q
    · rename_i d e
      obtain ⟨w, h1, h2⟩ := c.at_sh e
      rw [h] at h1; cases h1
      exact ⟨d, .inl h2, q⟩
    · rename_i d e
      obtain ⟨p, h1, h2⟩ := c.at_ow e
      rw [h] at h1; cases h1
      exact ⟨d, .inr ⟨p, rfl, h2⟩, q⟩
    · rename_i d e
      obtain ⟨p, h1, h2⟩ := c.at_io e
      rw [h] at h1; cases h1
      exact ⟨d, .inr ⟨p, rfl, h2⟩, q⟩
    · exact q.elim
  | op t d => exact q.elim
theorem Hold.share {k : D → Ev → Prop} (c : Rel G C Hi σ H Γ) (h : Hold G Hi σ v r) (q : frW r Γ k) : ∃ d Hi' Γ', Ext Hi Hi' ∧ Rel G C Hi' σ H Γ' ∧ Rep G.K Hi' v d ∧ k d Γ' := by
  cases r with
  | sh d => exact ⟨d, Hi, Γ, Ext.refl _, c, h, q⟩
  | ow d => exact ⟨d, Hi, Γ, Ext.refl _, c, h, q⟩
  | vr i =>
    have h : σ[i]? = some (some v) := h
    unfold frW at q
    dsimp only at q
    split at q
    · rename_i d e
      obtain ⟨w, h1, h2⟩ := c.at_sh e
      rw [h] at h1; cases h1
      exact ⟨d, Hi, Γ, Ext.refl _, c, h2, q⟩
    · rename_i d e
      obtain ⟨Hi', e', c'⟩ := Rel.freeze c e
      obtain ⟨w, h1, h2⟩ := c'.at_sh (i := i) (d := d) (by
        have := (List.getElem?_eq_some_iff.mp e).1
        rw [List.getElem?_set_self this])
      rw [h] at h1; cases h1
      exact ⟨d, Hi', _, e', c', h2, q⟩
    · exact q.elim
  | op t d => exact q.elim
theorem Out.share {k : D → Ev → Prop} (o : Out G C Hi σ H Γ v r) (q : frW r Γ k) : ∃ d Hi' Γ', Ext Hi Hi' ∧ Rel G C Hi' σ H Γ' ∧ Rep G.K Hi' v d ∧ k d Γ' := by
  obtain ⟨Hi1, e1, c1, h1⟩ := o.hold
  obtain ⟨d, Hi2, Γ2, e2, c2, r2, q2⟩ := h1.share c1 q
  exact ⟨d, Hi2, Γ2, e1.trans e2, c2, r2, q2⟩

variable {K : Fg}
theorem Rdb.int {x : V} {i : Int} (h : Rdb K Hi H x (.int i)) : x = .int i := by
  rcases h with h | ⟨p, _, h⟩
  · cases h; rfl
  · cases h
theorem Rdb.bl {x : V} {b : Bool} (h : Rdb K Hi H x (.bool b)) : x = .bl b := by
  rcases h with h | ⟨p, _, h⟩
  · cases h; rfl
  · cases h
theorem Rdb.str {x : V} {z : Str} (h : Rdb K Hi H x (.str z)) : x = .str z := by
  rcases h with h | ⟨p, _, h⟩
  · cases h; rfl
  · cases h
theorem Rdb.non {x : V} (h : Rdb K Hi H x .none) : x = .non := by
  rcases h with h | ⟨p, _, h⟩
  · cases h; rfl
  · cases h
theorem Rdb.list {x : V} {ds : List D} (e : Ext Hi H) (h : Rdb K Hi H x (.list ds)) : ∃ p xs, x = .ref p ∧ H p = some (.lst xs) ∧ Reps K Hi xs ds := by
  rcases h with h | ⟨p, rfl, h⟩
  · cases h with
    | lst h r => exact ⟨_, _, rfl, e _ _ h, r⟩
  · cases h with
    | lst h r => exact ⟨_, _, rfl, h, r⟩
theorem Rdb.tuple {x : V} {ds : List D} (e : Ext Hi H) (h : Rdb K Hi H x (.tuple ds)) : ∃ p xs, x = .ref p ∧ H p = some (.tup xs) ∧ Reps K Hi xs ds := by
  rcases h with h | ⟨p, _, h⟩
  · cases h with
    | tup h r => exact ⟨_, _, rfl, e _ _ h, r⟩
  · cases h
theorem Rdb.dict {x : V} {ps : List (D × D)} (e : Ext Hi H) (h : Rdb K Hi H x (.dict ps)) : ∃ p kvs, x = .ref p ∧ Rd H p (.dK kvs) ∧ RepKV K Hi kvs ps := by
  rcases h with h | ⟨p, rfl, h⟩
  · cases h with
    | dct h r => exact ⟨_, _, rfl, e.rd h, r⟩
  · cases h with
    | dct h r => exact ⟨_, _, rfl, .inl h, r⟩
theorem Rdb.rep {x : V} {d : D} (e : Ext Hi H) (h : Rdb K Hi H x d) : Rep K H x d := by
  rcases h with h | ⟨p, rfl, h⟩
  · exact h.mono e
  · cases h with
    | lst h r => exact .lst h (r.mono e)
    | dct h r => exact .dct (.inl h) (r.mono e)
end

def SimE (G : Gb) (W : WX) (t : TE) (w : WE) : Prop := ∀ (C : Cf) (Hi : Hp) (σ : St) (H : Hp) (Γ : Ev) (Q : VK) (Qd : R → Ev → Prop) (Xd : XW), Rel G C Hi σ H Γ → w Γ Qd Xd →
  (∀ v r H' Hi' Γ', Ext Hi Hi' → Out G C Hi' σ H' Γ' v r → Qd r Γ' → Q v H') →
  (∀ x c d H' Hi' Γ', Ext Hi Hi' → Rel G C Hi' σ H' Γ' → G.xr x c d Hi' → Xd x Γ' → W c d σ H') → t σ H Q
def SimT (G : Gb) (W : WX) (t : TT) (w : WT) : Prop := ∀ (C : Cf) (Hi : Hp) (σ : St) (H : Hp) (Γ : Ev) (Q : Bool → Hp → Prop) (Qd : Bool → Ev → Prop) (Xd : XW), Rel G C Hi σ H Γ → w Γ Qd Xd →
  (∀ b H' Hi' Γ', Ext Hi Hi' → Rel G C Hi' σ H' Γ' → Qd b Γ' → Q b H') →
  (∀ x c d H' Hi' Γ', Ext Hi Hi' → Rel G C Hi' σ H' Γ' → G.xr x c d Hi' → Xd x Γ' → W c d σ H') → t σ H Q
inductive Holds (G : Gb) (Hi : Hp) (σ : St) : List V → List R → Prop
  | nil : Holds G Hi σ [] []
  | cons {v : V} {vs : List V} {r : R} {rs : List R} : Hold G Hi σ v r → Holds G Hi σ vs rs → Holds G Hi σ (v :: vs) (r :: rs)
def SimA (G : Gb) (W : WX) (t : TA) (w : WA) : Prop := ∀ (C : Cf) (Hi : Hp) (σ : St) (H : Hp) (Γ : Ev) (Q : List V → Hp → Prop) (Qd : List R → Ev → Prop) (Xd : XW), Rel G C Hi σ H Γ → w Γ Qd Xd →
  (∀ vs rs H' Hi' Γ', Ext Hi Hi' → Rel G C Hi' σ H' Γ' → Holds G Hi' σ vs rs → Qd rs Γ' → Q vs H') →
  (∀ x c d H' Hi' Γ', Ext Hi Hi' → Rel G C Hi' σ H' Γ' → G.xr x c d Hi' → Xd x Γ' → W c d σ H') → t σ H Q
def SimS (G : Gb) (W : WX) (t : TS) (w : WS) : Prop := ∀ (C : Cf) (Hi : Hp) (σ : St) (H : Hp) (Γ : Ev) (Dn : Ends) (Dd : WD) (Xd : XW), Rel G C Hi σ H Γ → w Γ Dd Xd →
  (∀ σ' H' Hi' Γ', Ext Hi Hi' → Rel G C Hi' σ' H' Γ' → Dd.nx Γ' → Dn.nx σ' H') →
  (∀ v r σ' H' Hi' Γ', Ext Hi Hi' → Out G C Hi' σ' H' Γ' v r → Dd.rt r Γ' → Dn.rt v H') →
  (∀ σ' H' Hi' Γ', Ext Hi Hi' → Rel G C Hi' σ' H' Γ' → Dd.bk Γ' → Dn.bk σ' H') →
  (∀ σ' H' Hi' Γ', Ext Hi Hi' → Rel G C Hi' σ' H' Γ' → Dd.ct Γ' → Dn.ct σ' H') →
  (∀ x c d σ' H' Hi' Γ', Ext Hi Hi' → Rel G C Hi' σ' H' Γ' → G.xr x c d Hi' → Xd x Γ' → W c d σ' H') → t Dn σ H
end VL

set_option Elab.async false
set_option linter.all false
set_option maxRecDepth 100000
namespace VL
open PySem L2

section
variable {G : Gb} {C : Cf} {Hi Hi' H H' : Hp} {σ : St} {Γ : Ev} {fp : Nat → List Addr} {W : WX}
theorem Core.grow (c : Core G C Hi σ H Γ fp) (k : Ext H H') (e : Ext Hi Hi') (im : Ext Hi' H') (ov : ∀ a o, Hi' a = some o → Hi a = some o ∨ H a = none) : Core G C Hi' σ H' Γ fp where
  frame := fun a o h n => k a o (c.frame a o h n)
  live := fun a h => by
    cases q : H a with
    | none => exact absurd q (c.live a h)
    | some o => rw [k a o q]; simp
  imm := im
  base := c.base.trans e
  ov := fun a o h => by
    rcases ov a o h with q | q
    · exact c.ov a o q
    · exact .inr (c.fresh q).2
  len := c.len
  sl := fun j s h => by
    obtain ⟨x, h1, h2⟩ := c.sl j s h
    refine ⟨x, h1, h2.to e fun a ha => ?_⟩
    obtain ⟨o, ho⟩ := h2.trk a ha
    rw [ho]; exact k a o ho
  dj := c.dj
  av := fun i a hi ha => by
    cases q : Hi' a with
    | none => rfl
    | some o =>
      rcases ov a o q with z | z
      · rw [c.av i a hi ha] at z; cases z
      · obtain ⟨u, hu⟩ := c.trk hi ha
        rw [z] at hu; cases hu
theorem Rel.grow (c : Rel G C Hi σ H Γ) (k : Ext H H') (e : Ext Hi Hi') (im : Ext Hi' H') (ov : ∀ a o, Hi' a = some o → Hi a = some o ∨ H a = none) : Rel G C Hi' σ H' Γ :=
  let ⟨_, c⟩ := c
  ⟨_, c.grow k e im ov⟩
theorem Rel.laid {p : Addr} {o : HO} (c : Rel G C Hi σ H Γ) (hp : H p = none) : Ext Hi (upd Hi p o) ∧ Rel G C (upd Hi p o) σ (upd H p o) Γ := by
  have hn := c.imm.none_of hp
  refine ⟨Ext.new hn, c.grow (Ext.new hp) (Ext.new hn) (fun a u h => ?_) fun a u h => ?_⟩
  · by_cases e : a = p
    · rw [e, upd_same] at h; rw [e, upd_same]; exact h
    · rw [upd_ne e] at h; rw [upd_ne e]; exact c.imm a u h
  · by_cases e : a = p
    · rw [e]; exact .inr hp
    · rw [upd_ne e] at h; exact .inl h
theorem Out.new {p : Addr} {o : HO} {d : D} (c : Rel G C Hi σ H Γ) (hp : H p = none) (ow : Own G.K Hi (upd H p o) p d) : Out G C Hi σ (upd H p o) Γ (.ref p) (.ow d) := ⟨c.len, c.alloc hp ow⟩
theorem Out.newL {p : Addr} {xs : List V} {ds : List D} (c : Rel G C Hi σ H Γ) (hp : H p = none) (r : Reps G.K Hi xs ds) : Out G C Hi σ (upd H p (.lst xs)) Γ (.ref p) (.ow (.list ds)) := Out.new c hp (.lst upd_same r)
theorem Out.newT {p : Addr} {xs : List V} {ds : List D} (c : Rel G C Hi σ H Γ) (hp : H p = none) (r : Reps G.K Hi xs ds) :
    Ext Hi (upd Hi p (.tup xs)) ∧ Out G C (upd Hi p (.tup xs)) σ (upd H p (.tup xs)) Γ (.ref p) (.sh (.tuple ds)) := by
  obtain ⟨e, c'⟩ := c.laid (o := .tup xs) hp
  exact ⟨e, c', .tup upd_same (r.mono e)⟩

def wVar (i : Nat) : WE := fun Γ Q _ => match Γ[i]? with
  | some (.sh d) => Q (.sh d) Γ
  | some (.ow _) => Q (.vr i) Γ
  | some (.io _) => Q (.vr i) Γ
  | some (.op _ _) => Q (.vr i) Γ
  | _ => False
theorem sim_var (i : Nat) : SimE G W (tVar i) (wVar i) := by
  intro C Hi σ H Γ Q Qd Xd c hw hQ hX
  unfold wVar at hw
  split at hw
  · rename_i d e
    obtain ⟨v, h1, h2⟩ := c.at_sh e
    exact ⟨v, h1, hQ v (.sh d) H Hi Γ (Ext.refl _) ⟨c, h2⟩ hw⟩
  · rename_i d e
    obtain ⟨p, h1, _⟩ := c.at_ow e
    exact ⟨_, h1, hQ _ (.vr i) H Hi Γ (Ext.refl _) ⟨c, h1⟩ hw⟩
  · rename_i d e
    obtain ⟨p, h1, _⟩ := c.at_io e
    exact ⟨_, h1, hQ _ (.vr i) H Hi Γ (Ext.refl _) ⟨c, h1⟩ hw⟩
  · rename_i t d e
    obtain ⟨fp, c0⟩ := id c
    obtain ⟨x, hx, p, e1, _⟩ := c0.sl i _ e
    rw [e1] at hx
    exact ⟨_, hx, hQ _ (.vr i) H Hi Γ (Ext.refl _) ⟨c, hx⟩ hw⟩
  · exact hw.elim
def wC (d : D) : WE := fun Γ Q _ => Q (.sh d) Γ
theorem sim_c {v : V} {d : D} (h : ∀ Hi, Rep G.K Hi v d) : SimE G W (tC v) (wC d) := fun C Hi σ H Γ Q Qd Xd c hw hQ hX => hQ v (.sh d) H Hi Γ (Ext.refl _) ⟨c, h Hi⟩ hw

abbrev Op2 := D → D → (R → Prop) → Prop
abbrev Op1 := D → (R → Prop) → Prop
def Sem2 (G : Gb) (r : R2) (o : Op2) : Prop := ∀ {C : Cf} {Hi : Hp} {σ : St} {H : Hp} {Γ : Ev} {x y : V} {a b : D} {k : R → Prop} {Q : VK}, Rel G C Hi σ H Γ → Rdb G.K Hi H x a → Rdb G.K Hi H y b → o a b k →
  (∀ v r H' Hi', Ext Hi Hi' → Out G C Hi' σ H' Γ v r → k r → Q v H') → r x y H Q
def Sem1 (G : Gb) (r : V → Hp → VK → Prop) (o : Op1) : Prop := ∀ {C : Cf} {Hi : Hp} {σ : St} {H : Hp} {Γ : Ev} {x : V} {a : D} {k : R → Prop} {Q : VK}, Rel G C Hi σ H Γ → Rdb G.K Hi H x a → o a k →
  (∀ v r H' Hi', Ext Hi Hi' → Out G C Hi' σ H' Γ v r → k r → Q v H') → r x H Q
def wOp (o : Op2) (wa wb : WE) : WE := fun Γ Q X => wa Γ (fun ra Γ1 => wb Γ1 (fun rb Γ2 => rdW ra Γ2 fun a => rdW rb Γ2 fun b => o a b fun r => Q r Γ2) X) X
theorem sim_op {r : R2} {o : Op2} {ta tb : TE} {wa wb : WE} (h : Sem2 G r o) (ha : SimE G W ta wa) (hb : SimE G W tb wb) : SimE G W (tOp r ta tb) (wOp o wa wb) := by
  intro C Hi σ H Γ Q Qd Xd c hw hQ hX
  refine ha C Hi σ H Γ _ _ Xd c hw (fun v1 r1 H1 Hi1 Γ1 e1 o1 q1 => ?_) hX
  obtain ⟨Hi2, e2, c2, h2⟩ := o1.hold
  refine hb C Hi2 σ H1 Γ1 _ _ Xd c2 q1 (fun v3 r3 H3 Hi3 Γ3 e3 o3 q3 => ?_) fun x c d H' Hi' Γ' e' => hX x c d H' Hi' Γ' ((e1.trans e2).trans e')
  obtain ⟨Hi4, e4, c4, h4⟩ := o3.hold
  obtain ⟨d1, b1, q4⟩ := (h2.mono (e3.trans e4)).read c4 q3
  obtain ⟨d2, b2, q5⟩ := h4.read c4 q4
  exact h c4 b1 b2 q5 fun v r H' Hi' e o q => hQ v r H' Hi' Γ3 ((((e1.trans e2).trans e3).trans e4).trans e) o q
def wUn (o : Op1) (wa : WE) : WE := fun Γ Q X => wa Γ (fun ra Γ1 => rdW ra Γ1 fun a => o a fun r => Q r Γ1) X
theorem sim_un {r : V → Hp → VK → Prop} {o : Op1} {ta : TE} {wa : WE} (h : Sem1 G r o) (ha : SimE G W ta wa) : SimE G W (tUn r ta) (wUn o wa) := by
  intro C Hi σ H Γ Q Qd Xd c hw hQ hX
  refine ha C Hi σ H Γ _ _ Xd c hw (fun v1 r1 H1 Hi1 Γ1 e1 o1 q1 => ?_) hX
  obtain ⟨Hi2, e2, c2, h2⟩ := o1.hold
  obtain ⟨d1, b1, q4⟩ := h2.read c2 q1
  exact h c2 b1 q4 fun v r H' Hi' e o q => hQ v r H' Hi' Γ1 ((e1.trans e2).trans e) o q
theorem out_int (c : Rel G C Hi σ H Γ) (i : Int) : Out G C Hi σ H Γ (.int i) (.sh (.int i)) := ⟨c, .int i⟩
theorem out_bl (c : Rel G C Hi σ H Γ) (i : Bool) : Out G C Hi σ H Γ (.bl i) (.sh (.bool i)) := ⟨c, .bl i⟩
theorem out_str (c : Rel G C Hi σ H Γ) (i : Str) : Out G C Hi σ H Γ (.str i) (.sh (.str i)) := ⟨c, .str i⟩
def isI (d : D) (k : Int → Prop) : Prop := match d with
  | .int i => k i
  | _ => False
def isB (d : D) (k : Bool → Prop) : Prop := match d with
  | .bool b => k b
  | _ => False
def isS (d : D) (k : Str → Prop) : Prop := match d with
  | .str s => k s
  | _ => False
def isL (d : D) (k : List D → Prop) : Prop := match d with
  | .list s => k s
  | _ => False
def oII (P : Int → Int → Prop) (g : Int → Int → Int) : Op2 := fun a b k => isI a fun i => isI b fun j => P i j ∧ k (.sh (.int (g i j)))
def oIB (g : Int → Int → Bool) : Op2 := fun a b k => isI a fun i => isI b fun j => k (.sh (.bool (g i j)))
theorem isI_inv {d : D} {k : Int → Prop} (h : isI d k) : ∃ i, d = .int i ∧ k i := by
  unfold isI at h; split at h
  · exact ⟨_, rfl, h⟩
  · exact h.elim
theorem isB_inv {d : D} {k : Bool → Prop} (h : isB d k) : ∃ i, d = .bool i ∧ k i := by
  unfold isB at h; split at h
  · exact ⟨_, rfl, h⟩
  · exact h.elim
theorem isS_inv {d : D} {k : Str → Prop} (h : isS d k) : ∃ i, d = .str i ∧ k i := by
  unfold isS at h; split at h
  · exact ⟨_, rfl, h⟩
  · exact h.elim
theorem isL_inv {d : D} {k : List D → Prop} (h : isL d k) : ∃ i, d = .list i ∧ k i := by
  unfold isL at h; split at h
  · exact ⟨_, rfl, h⟩
  · exact h.elim
theorem sem_II {P P' : Int → Int → Prop} {g : Int → Int → Int} {g' : Int → Int → V} (hp : ∀ i j, P i j → P' i j) (hg : ∀ i j, P i j → g' i j = .int (g i j)) : Sem2 G (rI P' g') (oII P g) := by
  intro C Hi σ H Γ x y a b k Q c ha hb h q
  obtain ⟨i, rfl, h1⟩ := isI_inv h
  obtain ⟨j, rfl, hP, h⟩ := isI_inv h1
  refine ⟨i, j, ha.int, hb.int, hp i j hP, ?_⟩
  rw [hg i j hP]
  exact q _ _ H Hi (Ext.refl _) (out_int c _) h
theorem sem_II0 {g : Int → Int → Int} : Sem2 G (rI0 fun i j => .int (g i j)) (oII (fun _ _ => True) g) := by
  intro C Hi σ H Γ x y a b k Q c ha hb h q
  obtain ⟨i, rfl, h1⟩ := isI_inv h
  obtain ⟨j, rfl, hP, h⟩ := isI_inv h1
  exact ⟨i, j, ha.int, hb.int, q _ _ H Hi (Ext.refl _) (out_int c _) h⟩
theorem sem_IB {g : Int → Int → Bool} : Sem2 G (rI0 fun i j => .bl (g i j)) (oIB g) := by
  intro C Hi σ H Γ x y a b k Q c ha hb h q
  obtain ⟨i, rfl, h1⟩ := isI_inv h
  obtain ⟨j, rfl, h⟩ := isI_inv h1
  exact ⟨i, j, ha.int, hb.int, q _ _ H Hi (Ext.refl _) (out_bl c _) h⟩

mutual
theorem Rep.dp {K : Fg} {H : Hp} : ∀ {v : V} {d : D}, Rep K H v d → d.canLay0 = true → Dp K H v d
  | _, _, .non, _ => .non
  | _, _, .bl b, _ => .bl b
  | _, _, .int i, _ => .int i
  | _, _, .str x, _ => .str x
  | _, _, .lst h r, e => .lst (.inl (.inl h)) (Reps.dp r (by simpa [PyData.canLay0] using e))
  | _, _, .tup h r, e => .tup (.inl (.inl h)) (Reps.dp r (by simpa [PyData.canLay0] using e))
  | _, _, .dct h r, e => by simp [PyData.canLay0] at e
theorem Reps.dp {K : Fg} {H : Hp} : ∀ {vs : List V} {ds : List D}, Reps K H vs ds → PyData.canLayAll0 ds = true → DpAll K H vs ds
  | _, _, .nil, _ => .nil
  | _, d :: ds, .cons h r, e => by
    have e' : PyData.canLay0 d = true ∧ PyData.canLayAll0 ds = true := by simpa [PyData.canLayAll0] using e
    exact .cons (Rep.dp h e'.1) (Reps.dp r e'.2)
end
theorem Rdb.dp {K : Fg} {x : V} {d : D} (e : Ext Hi H) (h : Rdb K Hi H x d) (s : SeqAt.shaped d = true) : Dp K H x d := (h.rep e).dp (SeqAt.canLay_of_shaped s)
def oEq : Op2 := fun a b k => SeqAt.shaped a = true ∧ SeqAt.shaped b = true ∧ k (.sh (.bool (PyData.eqv a b)))
def oNe : Op2 := fun a b k => SeqAt.shaped a = true ∧ SeqAt.shaped b = true ∧ k (.sh (.bool (!PyData.eqv a b)))
theorem sem_eq : Sem2 G (rEqD G.K) oEq := by
  intro C Hi σ H Γ x y a b k Q c ha hb ⟨s1, s2, h⟩ q
  exact ⟨a, b, ha.dp c.imm s1, hb.dp c.imm s2, s1, s2, q _ _ H Hi (Ext.refl _) (out_bl c _) h⟩
theorem sem_ne : Sem2 G (rNeD G.K) oNe := by
  intro C Hi σ H Γ x y a b k Q c ha hb ⟨s1, s2, h⟩ q
  exact ⟨a, b, ha.dp c.imm s1, hb.dp c.imm s2, s1, s2, q _ _ H Hi (Ext.refl _) (out_bl c _) h⟩
def isNone : D → Bool
  | .none => true
  | _ => false
theorem rdb_none {K : Fg} {x : V} {d : D} (h : Rdb K Hi H x d) : decide (x = .non) = isNone d := by
  rcases h with h | ⟨p, rfl, h⟩
  · cases h <;> first | rfl | exact decide_eq_false (fun z => nomatch z)
  · cases h <;> exact decide_eq_false (fun z => nomatch z)
def isN (d : D) (k : Prop) : Prop := match d with
  | .none => k
  | _ => False
theorem isN_inv {d : D} {k : Prop} (h : isN d k) : d = .none ∧ k := by
  unfold isN at h; split at h
  · exact ⟨rfl, h⟩
  · exact h.elim
def oIsN : Op2 := fun a b k => isN b (k (.sh (.bool (isNone a))))
def oNotN : Op2 := fun a b k => isN b (k (.sh (.bool (!isNone a))))
theorem sem_isN : Sem2 G (fun x y H Q => y = .non ∧ Q (.bl (decide (x = .non))) H) oIsN := by
  intro C Hi σ H Γ x y a b k Q c ha hb h q
  obtain ⟨rfl, h⟩ := isN_inv h
  refine ⟨hb.non, ?_⟩
  rw [rdb_none ha]
  exact q _ _ H Hi (Ext.refl _) (out_bl c _) h
def wT (w : WE) : WT := fun Γ Q X => w Γ (fun r Γ1 => rdW r Γ1 fun d => isB d fun b => Q b Γ1) X
theorem sim_tB {t : TE} {w : WE} (h : SimE G W t w) : SimT G W (tB t) (wT w) := by
  intro C Hi σ H Γ Q Qd Xd c hw hQ hX
  refine h C Hi σ H Γ _ _ Xd c hw (fun v1 r1 H1 Hi1 Γ1 e1 o1 q1 => ?_) hX
  obtain ⟨Hi2, e2, c2, h2⟩ := o1.hold
  obtain ⟨d, b1, q⟩ := h2.read c2 q1
  obtain ⟨b, rfl, q⟩ := isB_inv q
  exact ⟨b, b1.bl, hQ b H1 Hi2 Γ1 (e1.trans e2) c2 q⟩
theorem sim_tTest {t : TE} {w : WE} (h : SimE G W t w) : SimT G W (tTest t) (wT w) := sim_tB h
def wAnd (a b : WT) : WT := fun Γ Q X => a Γ (fun c Γ1 => if c = true then b Γ1 Q X else Q false Γ1) X
def wOr (a b : WT) : WT := fun Γ Q X => a Γ (fun c Γ1 => if c = true then Q true Γ1 else b Γ1 Q X) X
def wNot (a : WT) : WT := fun Γ Q X => a Γ (fun c Γ1 => Q (!c) Γ1) X
theorem sim_and {t u : TT} {a b : WT} (ha : SimT G W t a) (hb : SimT G W u b) : SimT G W (tAnd t u) (wAnd a b) := by
  intro C Hi σ H Γ Q Qd Xd c hw hQ hX
  refine ha C Hi σ H Γ _ _ Xd c hw (fun b1 H1 Hi1 Γ1 e1 c1 q1 => ?_) hX
  cases b1 with
  | true => exact hb C Hi1 σ H1 Γ1 Q Qd Xd c1 q1 (fun b H' Hi' Γ' e => hQ b H' Hi' Γ' (e1.trans e)) fun x c d H' Hi' Γ' e => hX x c d H' Hi' Γ' (e1.trans e)
  | false => exact hQ false H1 Hi1 Γ1 e1 c1 q1
theorem sim_or {t u : TT} {a b : WT} (ha : SimT G W t a) (hb : SimT G W u b) : SimT G W (tOr t u) (wOr a b) := by
  intro C Hi σ H Γ Q Qd Xd c hw hQ hX
  refine ha C Hi σ H Γ _ _ Xd c hw (fun b1 H1 Hi1 Γ1 e1 c1 q1 => ?_) hX
  cases b1 with
  | false => exact hb C Hi1 σ H1 Γ1 Q Qd Xd c1 q1 (fun b H' Hi' Γ' e => hQ b H' Hi' Γ' (e1.trans e)) fun x c d H' Hi' Γ' e => hX x c d H' Hi' Γ' (e1.trans e)
  | true => exact hQ true H1 Hi1 Γ1 e1 c1 q1
theorem sim_not {t : TT} {a : WT} (ha : SimT G W t a) : SimT G W (tNot t) (wNot a) := fun C Hi σ H Γ Q Qd Xd c hw hQ hX =>
  ha C Hi σ H Γ _ _ Xd c hw (fun b H1 Hi1 Γ1 e1 c1 q1 => hQ (!b) H1 Hi1 Γ1 e1 c1 q1) hX
def wAndV (wa wb : WE) : WE := fun Γ Q X => wa Γ (fun r Γ1 => rdW r Γ1 fun d => isB d fun b => if b = true then wb Γ1 Q X else Q (.sh (.bool false)) Γ1) X
def wOrV (wa wb : WE) : WE := fun Γ Q X => wa Γ (fun r Γ1 => rdW r Γ1 fun d => isB d fun b => if b = true then Q (.sh (.bool true)) Γ1 else wb Γ1 Q X) X
def wNotV (wa : WE) : WE := fun Γ Q X => wa Γ (fun r Γ1 => rdW r Γ1 fun d => isB d fun b => Q (.sh (.bool (!b))) Γ1) X
theorem sim_andV {ta tb : TE} {wa wb : WE} (ha : SimE G W ta wa) (hb : SimE G W tb wb) : SimE G W (tAndV ta tb) (wAndV wa wb) := by
  intro C Hi σ H Γ Q Qd Xd c hw hQ hX
  refine ha C Hi σ H Γ _ _ Xd c hw (fun v1 r1 H1 Hi1 Γ1 e1 o1 q1 => ?_) hX
  obtain ⟨Hi2, e2, c2, h2⟩ := o1.hold
  obtain ⟨d, b1, q⟩ := h2.read c2 q1
  obtain ⟨b, rfl, q⟩ := isB_inv q
  refine ⟨b, b1.bl, ?_⟩
  cases b with
  | true => exact hb C Hi2 σ H1 Γ1 Q Qd Xd c2 q (fun v r H' Hi' Γ' e => hQ v r H' Hi' Γ' ((e1.trans e2).trans e)) fun x c d H' Hi' Γ' e => hX x c d H' Hi' Γ' ((e1.trans e2).trans e)
  | false => exact hQ _ _ H1 Hi2 Γ1 (e1.trans e2) (out_bl c2 _) q
theorem sim_orV {ta tb : TE} {wa wb : WE} (ha : SimE G W ta wa) (hb : SimE G W tb wb) : SimE G W (tOrV ta tb) (wOrV wa wb) := by
  intro C Hi σ H Γ Q Qd Xd c hw hQ hX
  refine ha C Hi σ H Γ _ _ Xd c hw (fun v1 r1 H1 Hi1 Γ1 e1 o1 q1 => ?_) hX
  obtain ⟨Hi2, e2, c2, h2⟩ := o1.hold
  obtain ⟨d, b1, q⟩ := h2.read c2 q1
  obtain ⟨b, rfl, q⟩ := isB_inv q
  refine ⟨b, b1.bl, ?_⟩
  cases b with
  | false => exact hb C Hi2 σ H1 Γ1 Q Qd Xd c2 q (fun v r H' Hi' Γ' e => hQ v r H' Hi' Γ' ((e1.trans e2).trans e)) fun x c d H' Hi' Γ' e => hX x c d H' Hi' Γ' ((e1.trans e2).trans e)
  | true => exact hQ _ _ H1 Hi2 Γ1 (e1.trans e2) (out_bl c2 _) q
theorem sim_notV {ta : TE} {wa : WE} (ha : SimE G W ta wa) : SimE G W (tNotV ta) (wNotV wa) := by
  intro C Hi σ H Γ Q Qd Xd c hw hQ hX
  refine ha C Hi σ H Γ _ _ Xd c hw (fun v1 r1 H1 Hi1 Γ1 e1 o1 q1 => ?_) hX
  obtain ⟨Hi2, e2, c2, h2⟩ := o1.hold
  obtain ⟨d, b1, q⟩ := h2.read c2 q1
  obtain ⟨b, rfl, q⟩ := isB_inv q
  exact ⟨b, b1.bl, hQ _ _ H1 Hi2 Γ1 (e1.trans e2) (out_bl c2 _) q⟩
def wIf (c : WT) (wa wb : WE) : WE := fun Γ Q X => c Γ (fun b Γ1 => if b = true then wa Γ1 Q X else wb Γ1 Q X) X
theorem sim_if {t : TT} {u : WT} {ta tb : TE} {wa wb : WE} (hc : SimT G W t u) (ha : SimE G W ta wa) (hb : SimE G W tb wb) : SimE G W (tIf t ta tb) (wIf u wa wb) := by
  intro C Hi σ H Γ Q Qd Xd c hw hQ hX
  refine hc C Hi σ H Γ _ _ Xd c hw (fun b1 H1 Hi1 Γ1 e1 c1 q1 => ?_) hX
  cases b1 with
  | true => exact ha C Hi1 σ H1 Γ1 Q Qd Xd c1 q1 (fun v r H' Hi' Γ' e => hQ v r H' Hi' Γ' (e1.trans e)) fun x c d H' Hi' Γ' e => hX x c d H' Hi' Γ' (e1.trans e)
  | false => exact hb C Hi1 σ H1 Γ1 Q Qd Xd c1 q1 (fun v r H' Hi' Γ' e => hQ v r H' Hi' Γ' (e1.trans e)) fun x c d H' Hi' Γ' e => hX x c d H' Hi' Γ' (e1.trans e)
def wChain (o o' : Op2) (wa wb wc : WE) : WE := fun Γ Q X => wa Γ (fun ra Γ1 => wb Γ1 (fun rb Γ2 => rdW ra Γ2 fun a => rdW rb Γ2 fun b => o a b fun r => rdW r Γ2 fun d => isB d fun z =>
  if z = true then wc Γ2 (fun rc Γ3 => rdW rb Γ3 fun b' => rdW rc Γ3 fun c' => o' b' c' fun r => Q r Γ3) X else Q (.sh (.bool false)) Γ2) X) X
theorem sim_chain {r r' : R2} {o o' : Op2} {ta tb tc : TE} {wa wb wc : WE} (h : Sem2 G r o) (h' : Sem2 G r' o') (ha : SimE G W ta wa) (hb : SimE G W tb wb) (hc : SimE G W tc wc) : SimE G W (tChain r r' ta tb tc) (wChain o o' wa wb wc) := by
  intro C Hi σ H Γ Q Qd Xd c hw hQ hX
  refine ha C Hi σ H Γ _ _ Xd c hw (fun v1 r1 H1 Hi1 Γ1 e1 o1 q1 => ?_) hX
  obtain ⟨Hi2, e2, c2, h2⟩ := o1.hold
  have f2 := e1.trans e2
  refine hb C Hi2 σ H1 Γ1 _ _ Xd c2 q1 (fun v3 r3 H3 Hi3 Γ3 e3 o3 q3 => ?_) fun x c d H' Hi' Γ' e' => hX x c d H' Hi' Γ' (f2.trans e')
  obtain ⟨Hi4, e4, c4, h4⟩ := o3.hold
  have f4 := (f2.trans e3).trans e4
  obtain ⟨d1, b1, q4⟩ := (h2.mono (e3.trans e4)).read c4 q3
  obtain ⟨d2, b2, q5⟩ := h4.read c4 q4
  refine h c4 b1 b2 q5 fun v r H5 Hi5 e5 o5 q6 => ?_
  obtain ⟨Hi6, e6, c6, h6⟩ := o5.hold
  obtain ⟨d3, b3, q7⟩ := h6.read c6 q6
  obtain ⟨z, rfl, q8⟩ := isB_inv q7
  have f6 := (f4.trans e5).trans e6
  refine ⟨z, b3.bl, ?_⟩
  cases z with
  | false => exact hQ _ _ H5 Hi6 Γ3 f6 (out_bl c6 _) q8
  | true =>
    refine hc C Hi6 σ H5 Γ3 _ _ Xd c6 q8 (fun v7 r7 H7 Hi7 Γ7 e7 o7 q9 => ?_) fun x c d H' Hi' Γ' e' => hX x c d H' Hi' Γ' (f6.trans e')
    obtain ⟨Hi8, e8, c8, h8⟩ := o7.hold
    obtain ⟨d4, b4, q10⟩ := (h4.mono (((e5.trans e6).trans e7).trans e8)).read c8 q9
    obtain ⟨d5, b5, q11⟩ := h8.read c8 q10
    exact h' c8 b4 b5 q11 fun v r H' Hi' e o q => hQ v r H' Hi' Γ7 (((f6.trans e7).trans e8).trans e) o q

def wNil : WA := fun Γ Q _ => Q [] Γ
def wCons (wa : WE) (wr : WA) : WA := fun Γ Q X => wa Γ (fun r Γ1 => wr Γ1 (fun rs Γ2 => Q (r :: rs) Γ2) X) X
theorem sim_nil : SimA G W tNil wNil := fun C Hi σ H Γ Q Qd Xd c hw hQ hX => hQ [] [] H Hi Γ (Ext.refl _) c .nil hw
theorem sim_cons {te : TE} {tr : TA} {we : WE} {wr : WA} (ha : SimE G W te we) (hr : SimA G W tr wr) : SimA G W (tCons te tr) (wCons we wr) := by
  intro C Hi σ H Γ Q Qd Xd c hw hQ hX
  refine ha C Hi σ H Γ _ _ Xd c hw (fun v1 r1 H1 Hi1 Γ1 e1 o1 q1 => ?_) hX
  obtain ⟨Hi2, e2, c2, h2⟩ := o1.hold
  have f2 := e1.trans e2
  refine hr C Hi2 σ H1 Γ1 _ _ Xd c2 q1 (fun vs rs H3 Hi3 Γ3 e3 c3 h3 q3 => ?_) fun x c d H' Hi' Γ' e' => hX x c d H' Hi' Γ' (f2.trans e')
  exact hQ (v1 :: vs) (r1 :: rs) H3 Hi3 Γ3 (f2.trans e3) c3 (.cons (h2.mono e3) h3) q3
def frAll : List R → Ev → (List D → Ev → Prop) → Prop
  | [], Γ, k => k [] Γ
  | r :: rs, Γ, k => frW r Γ fun d Γ1 => frAll rs Γ1 fun ds Γ2 => k (d :: ds) Γ2
theorem Holds.mono {vs : List V} {rs : List R} (h : Holds G Hi σ vs rs) (e : Ext Hi Hi') : Holds G Hi' σ vs rs := by
  induction h with
  | nil => exact .nil
  | cons a r ih => exact .cons (a.mono e) ih
theorem Holds.share {vs : List V} {rs : List R} (h : Holds G Hi σ vs rs) : ∀ {Hi' : Hp} {Γ : Ev} {k : List D → Ev → Prop}, Ext Hi Hi' → Rel G C Hi' σ H Γ → frAll rs Γ k →
    ∃ ds Hi2 Γ', Ext Hi' Hi2 ∧ Rel G C Hi2 σ H Γ' ∧ Reps G.K Hi2 vs ds ∧ k ds Γ' := by
  induction h with
  | nil => intro Hi' Γ k e c q; exact ⟨[], Hi', Γ, Ext.refl _, c, .nil, q⟩
  | cons a r ih =>
    intro Hi' Γ k e c q
    obtain ⟨d, Hi2, Γ2, e2, c2, r2, q2⟩ := (a.mono e).share c q
    obtain ⟨ds, Hi3, Γ3, e3, c3, r3, q3⟩ := ih (e.trans e2) c2 q2
    exact ⟨d :: ds, Hi3, Γ3, e2.trans e3, c3, .cons (r2.mono e3) r3, q3⟩
def rdAll : List R → Ev → (List D → Prop) → Prop
  | [], _, k => k []
  | r :: rs, Γ, k => rdW r Γ fun d => rdAll rs Γ fun ds => k (d :: ds)
inductive Rdbs (K : Fg) (Hi H : Hp) : List V → List D → Prop
  | nil : Rdbs K Hi H [] []
  | cons {v : V} {vs : List V} {d : D} {ds : List D} : Rdb K Hi H v d → Rdbs K Hi H vs ds → Rdbs K Hi H (v :: vs) (d :: ds)
theorem Holds.read {vs : List V} {rs : List R} (h : Holds G Hi σ vs rs) (c : Rel G C Hi σ H Γ) : ∀ {k : List D → Prop}, rdAll rs Γ k → ∃ ds, Rdbs G.K Hi H vs ds ∧ k ds := by
  induction h with
  | nil => intro k q; exact ⟨[], .nil, q⟩
  | cons a r ih =>
    intro k q
    obtain ⟨d, b, q⟩ := a.read c q
    obtain ⟨ds, bs, q⟩ := ih q
    exact ⟨d :: ds, .cons b bs, q⟩
def wTup (wa : WA) : WE := fun Γ Q X => wa Γ (fun rs Γ1 => frAll rs Γ1 fun ds Γ2 => ds.length ≤ 1000 ∧ Q (.sh (.tuple ds)) Γ2) X
def wLst (wa : WA) : WE := fun Γ Q X => wa Γ (fun rs Γ1 => frAll rs Γ1 fun ds Γ2 => ds.length ≤ 1000 ∧ Q (.ow (.list ds)) Γ2) X
theorem le_line {n : Nat} (h : n ≤ 1000) : n ≤ sizeLine := by rw [sizeLine_eq]; omega
theorem sim_tup {ta : TA} {wa : WA} (h : SimA G W ta wa) : SimE G W (tTup ta) (wTup wa) := by
  intro C Hi σ H Γ Q Qd Xd c hw hQ hX
  refine h C Hi σ H Γ _ _ Xd c hw (fun vs rs H1 Hi1 Γ1 e1 c1 h1 q1 => ?_) hX
  obtain ⟨ds, Hi2, Γ2, e2, c2, r2, hl, q2⟩ := h1.share (Ext.refl _) c1 q1
  refine ⟨le_line (by rw [r2.length]; exact hl), fun p hp => ?_⟩
  obtain ⟨e3, o3⟩ := Out.newT c2 hp r2
  exact hQ _ _ _ _ Γ2 ((e1.trans e2).trans e3) o3 q2
theorem sim_lst {ta : TA} {wa : WA} (h : SimA G W ta wa) : SimE G W (tLst ta) (wLst wa) := by
  intro C Hi σ H Γ Q Qd Xd c hw hQ hX
  refine h C Hi σ H Γ _ _ Xd c hw (fun vs rs H1 Hi1 Γ1 e1 c1 h1 q1 => ?_) hX
  obtain ⟨ds, Hi2, Γ2, e2, c2, r2, hl, q2⟩ := h1.share (Ext.refl _) c1 q1
  exact ⟨le_line (by rw [r2.length]; exact hl), fun p hp => hQ _ _ _ _ Γ2 (e1.trans e2) (Out.newL c2 hp r2) q2⟩

abbrev OpN := List D → (R → Prop) → Prop
def SemN (G : Gb) (r : List V → Hp → VK → Prop) (o : OpN) : Prop := ∀ {C : Cf} {Hi : Hp} {σ : St} {H : Hp} {Γ : Ev} {xs : List V} {ds : List D} {k : R → Prop} {Q : VK}, Rel G C Hi σ H Γ → Rdbs G.K Hi H xs ds → o ds k →
  (∀ v r H' Hi', Ext Hi Hi' → Out G C Hi' σ H' Γ v r → k r → Q v H') → r xs H Q
def wCB (o : OpN) (wa : WA) : WE := fun Γ Q X => wa Γ (fun rs Γ1 => rdAll rs Γ1 fun ds => o ds fun r => Q r Γ1) X
theorem sim_cb {r : List V → Hp → VK → Prop} {o : OpN} {ta : TA} {wa : WA} (h : SemN G r o) (ha : SimA G W ta wa) : SimE G W (tCB r ta) (wCB o wa) := by
  intro C Hi σ H Γ Q Qd Xd c hw hQ hX
  refine ha C Hi σ H Γ _ _ Xd c hw (fun vs rs H1 Hi1 Γ1 e1 c1 h1 q1 => ?_) hX
  obtain ⟨ds, bs, q⟩ := h1.read c1 q1
  exact h c1 bs q fun v r H' Hi' e o q => hQ v r H' Hi' Γ1 (e1.trans e) o q
end
end VL

set_option Elab.async false
set_option linter.all false
set_option maxRecDepth 100000
namespace VL
open PySem L2

section
variable {G : Gb} {C : Cf} {Hi Hi' H H' : Hp} {σ σ2 τ : St} {Γ Γ2 Δ : Ev} {fp fp' : Nat → List Addr} {W : WX}
theorem Rel.move {x : Option V} {s : Sl} {i : Nat} (c : Rel G C Hi (σ ++ [x]) H (Γ ++ [s])) (hl : Γ.length = σ.length) (hi : i < Γ.length) : Rel G C Hi (σ.set i x) H (Γ.set i s) := by
  obtain ⟨fp, c⟩ := c
  have c0 : Core G C Hi σ H Γ fp := by
    refine ⟨c.frame, c.live, c.imm, c.base, c.ov, hl, fun j s h => ?_, fun i j a hi hj => c.dj i j a (by simp; omega) (by simp; omega), fun i a hi => c.av i a (by simp; omega)⟩
    have hj : j < Γ.length := (List.getElem?_eq_some_iff.mp h).1
    obtain ⟨x, h1, h2⟩ := c.sl j s (by rw [List.getElem?_append_left hj]; exact h)
    exact ⟨x, by rw [List.getElem?_append_left (by omega)] at h1; exact h1, h2⟩
  obtain ⟨y, hy, ok⟩ := c.sl Γ.length s (by simp)
  have ey : y = x := by
    rw [hl] at hy
    simpa using hy.symm
  subst ey
  exact ⟨_, c0.put hi ok fun a ha => ⟨c.av Γ.length a (by simp) ha, fun j hj hne hm => by
    have := c.dj j Γ.length a (by simp; omega) (by simp) hm ha
    omega⟩⟩
theorem Rel.push_sh {v : V} {d : D} (c : Rel G C Hi σ H Γ) (r : Rep G.K Hi v d) : Rel G C Hi (σ ++ [some v]) H (Γ ++ [.sh d]) :=
  let ⟨_, c⟩ := c
  ⟨_, c.push (l := []) (Ext.refl _) ⟨rfl, v, rfl, r⟩ fun a ha => nomatch ha⟩

def InFp (fp : Nat → List Addr) (n : Nat) (a : Addr) : Prop := ∃ i, i < n ∧ a ∈ fp i
open Classical in
noncomputable def Cf.aside (C : Cf) (Hi H : Hp) (fp : Nat → List Addr) (n : Nat) (lv : ∀ a, C.H0 a ≠ none → H a ≠ none) : Cf where
  H0 := fun a => if InFp fp n a then C.H0 a else H a
  I0 := Hi
  io := C.io
  iot := fun a h => by
    split
    · exact C.iot a h
    · exact lv a (C.iot a h)
  pa := C.pa
open Classical in
theorem Core.aside (c : Core G C Hi (σ ++ τ) H (Γ ++ Δ) fp) (hl : Γ.length = σ.length) : Core G (C.aside Hi H fp Γ.length c.live) Hi σ H Γ fp where
  frame := fun a o h n => by
    have h : (if InFp fp Γ.length a then C.H0 a else H a) = some o := h
    split at h
    · exact c.frame a o h n
    · exact h
  live := fun a h => by
    have h : (if InFp fp Γ.length a then C.H0 a else H a) ≠ none := h
    split at h
    · exact c.live a h
    · exact h
  imm := c.imm
  base := Ext.refl _
  ov := fun a o h => .inl h
  len := hl
  sl := fun j s h => by
    have hj : j < Γ.length := (List.getElem?_eq_some_iff.mp h).1
    obtain ⟨x, h1, h2⟩ := c.sl j s (by rw [List.getElem?_append_left hj]; exact h)
    refine ⟨x, by rw [List.getElem?_append_left (by omega)] at h1; exact h1, ?_⟩
    have hin : ∀ a ∈ fp j, (C.aside Hi H fp Γ.length c.live).H0 a = C.H0 a := fun a ha => if_pos ⟨j, hj, ha⟩
    cases s with
    | no => exact h2
    | sh d => exact h2
    | ow d =>
      obtain ⟨p, e0, e1, e2, e3⟩ := h2
      exact ⟨p, e0, e1, e2, by rw [hin p (by rw [e0]; simp)]; exact e3⟩
    | io d => exact h2
    | op t d =>
      obtain ⟨p, e1, e2, e3, e4⟩ := h2
      exact ⟨p, e1, e2, fun a ha => by rw [hin a ha]; exact e3 a ha, e4⟩
    | two a b => exact h2
  dj := fun i j a hi hj => c.dj i j a (by simp; omega) (by simp; omega)
  av := fun i a hi => c.av i a (by simp; omega)
def Plain : Ev → Prop := fun Δ => ∀ s ∈ Δ, (∃ d, s = .sh d) ∨ (∃ d, s = .ow d) ∨ ∃ t d, 10 ≤ t ∧ s = .op t d
open Classical in
theorem Core.back (c : Core G C Hi (σ ++ τ) H (Γ ++ Δ) fp) (hl : Γ.length = σ.length) (pl : Plain Δ) (e : Ext Hi Hi') (n : Core G (C.aside Hi H fp Γ.length c.live) Hi' σ2 H' Γ2 fp') :
    Rel G C Hi' (σ2 ++ τ) H' (Γ2 ++ Δ) := by
  have h0 : ∀ a, (C.aside Hi H fp Γ.length c.live).H0 a = none → C.H0 a = none := fun a h => by
    have h : (if InFp fp Γ.length a then C.H0 a else H a) = none := h
    split at h
    · exact h
    · exact (c.fresh h).2
  -- a cell of the part put aside
  have prot : ∀ j a, j < (Γ ++ Δ).length → Γ.length ≤ j → a ∈ fp j → ∃ o, H a = some o ∧ (C.aside Hi H fp Γ.length c.live).H0 a = some o ∧ ¬ C.io a := fun j a hj hge ha => by
    obtain ⟨o, ho⟩ := c.trk hj ha
    have nin : ¬ InFp fp Γ.length a := fun ⟨i, hi, hm⟩ => by
      have := c.dj i j a (by simp; omega) hj hm ha
      omega
    refine ⟨o, ho, (if_neg nin).trans ho, ?_⟩
    obtain ⟨x, _, ok⟩ := c.sl j _ (List.getElem?_eq_getElem hj)
    have hs : (Γ ++ Δ)[j] ∈ Δ := by
      rw [List.getElem_append_right hge]
      exact List.getElem_mem _
    rcases pl _ hs with ⟨d, e⟩ | ⟨d, e⟩ | ⟨t, d, ht, e⟩
    · rw [e] at ok
      obtain ⟨z, _⟩ := ok
      rw [z] at ha; cases ha
    · rw [e] at ok
      obtain ⟨p, z, _, _, q⟩ := ok
      rw [z] at ha
      have : a = p := by simpa using ha
      subst this
      exact fun hio => C.iot a hio q
    · rw [e] at ok
      obtain ⟨p, _, _, q, _⟩ := ok
      rcases q a ha with q | ⟨q, _⟩
      · exact fun hio => C.iot a hio q
      · omega
  have nl := n.len
  refine ⟨fun j => if j < Γ2.length then fp' j else fp (j - Γ2.length + Γ.length), ?_⟩
  refine ⟨fun a o h hn => ?_, fun a h => ?_, n.imm, c.base.trans e, fun a o h => ?_, ?_, fun j s h => ?_, fun i j a hi hj h1 h2 => ?_, fun i a hi h => ?_⟩
  · refine n.frame a o ?_ hn
    show (if InFp fp Γ.length a then C.H0 a else H a) = some o
    split
    · exact h
    · exact c.frame a o h hn
  · refine n.live a fun q => h (h0 a q)
  · rcases n.ov a o h with q | q
    · exact c.ov a o q
    · exact .inr (h0 a q)
  · have := c.len
    simp at this ⊢
    omega
  · have hjl := (List.getElem?_eq_some_iff.mp h).1
    by_cases hj : j < Γ2.length
    · rw [List.getElem?_append_left hj] at h
      obtain ⟨x, h1, h2⟩ := n.sl j s h
      refine ⟨x, by rw [List.getElem?_append_left (by omega)]; exact h1, ?_⟩
      rw [if_pos hj]
      cases s with
      | no => exact h2
      | sh d => exact h2
      | ow d =>
        obtain ⟨p, e0, e1, e2, e3⟩ := h2
        exact ⟨p, e0, e1, e2, h0 p e3⟩
      | io d => exact h2
      | op t d =>
        obtain ⟨p, e1, e2, e3, e4⟩ := h2
        exact ⟨p, e1, e2, fun a ha => (e3 a ha).imp (h0 a) id, e4⟩
      | two a b => exact h2
    · rw [List.getElem?_append_right (by omega)] at h
      have hk : (Γ ++ Δ)[j - Γ2.length + Γ.length]? = some s := by
        rw [List.getElem?_append_right (by omega)]
        rw [show j - Γ2.length + Γ.length - Γ.length = j - Γ2.length by omega]
        exact h
      obtain ⟨x, h1, h2⟩ := c.sl _ s hk
      refine ⟨x, ?_, ?_⟩
      · rw [List.getElem?_append_right (by omega)]
        rw [List.getElem?_append_right (by omega)] at h1
        rw [show j - σ2.length = j - Γ2.length + Γ.length - σ.length by omega]
        exact h1
      · rw [if_neg hj]
        have hkl := (List.getElem?_eq_some_iff.mp hk).1
        refine h2.to e fun a ha => ?_
        obtain ⟨o, ho, ho', nio⟩ := prot _ a hkl (by omega) ha
        rw [ho]
        exact n.frame a o ho' nio
  · simp at hi hj
    by_cases ei : i < Γ2.length <;> by_cases ej : j < Γ2.length
    · rw [if_pos ei] at h1; rw [if_pos ej] at h2
      exact n.dj i j a ei ej h1 h2
    · rw [if_pos ei] at h1; rw [if_neg ej] at h2
      obtain ⟨o, ho, ho', nio⟩ := prot _ a (by simp; omega) (by omega) h2
      rcases n.home ei h1 with q | q
      · rw [ho'] at q; cases q
      · exact absurd q nio
    · rw [if_neg ei] at h1; rw [if_pos ej] at h2
      obtain ⟨o, ho, ho', nio⟩ := prot _ a (by simp; omega) (by omega) h1
      rcases n.home ej h2 with q | q
      · rw [ho'] at q; cases q
      · exact absurd q nio
    · rw [if_neg ei] at h1; rw [if_neg ej] at h2
      have := c.dj _ _ a (by simp; omega) (by simp; omega) h1 h2
      omega
  · simp at hi
    by_cases ei : i < Γ2.length
    · rw [if_pos ei] at h; exact n.av i a ei h
    · rw [if_neg ei] at h
      obtain ⟨o, ho, ho', nio⟩ := prot _ a (by simp; omega) (by omega) h
      cases q : Hi' a with
      | none => rfl
      | some u =>
        rcases n.ov a u q with z | z
        · have z : Hi a = some u := z
          rw [c.av _ a (by simp; omega) h] at z; cases z
        · rw [ho'] at z; cases z
end

section
variable {G : Gb} {C : Cf} {Hi Hi' H H' : Hp} {σ : St} {Γ : Ev} {W : WX}
def wNext : WS := fun Γ D _ => D.nx Γ
def wSeq (a b : WS) : WS := fun Γ D X => a Γ ⟨fun Γ1 => b Γ1 D X, D.rt, D.bk, D.ct⟩ X
def wBrk : WS := fun Γ D _ => D.bk Γ
def wCnt : WS := fun Γ D _ => D.ct Γ
def wDrop (w : WE) : WS := fun Γ D X => w Γ (fun _ Γ1 => D.nx Γ1) X
def wRet (w : WE) : WS := fun Γ D X => w Γ (fun r Γ1 => D.rt r Γ1) X
def wRetN : WS := fun Γ D _ => D.rt (.sh .none) Γ
def wIfS (c : WT) (a b : WS) : WS := fun Γ D X => c Γ (fun z Γ1 => if z = true then a Γ1 D X else b Γ1 D X) X
theorem sim_next : SimS G W tNext wNext := fun C Hi σ H Γ Dn Dd Xd c hw h1 _ _ _ _ => h1 σ H Hi Γ (Ext.refl _) c hw
theorem sim_seq {t u : TS} {a b : WS} (ha : SimS G W t a) (hb : SimS G W u b) : SimS G W (tSeq t u) (wSeq a b) := by
  intro C Hi σ H Γ Dn Dd Xd c hw h1 h2 h3 h4 h5
  refine ha C Hi σ H Γ _ _ Xd c hw (fun σ1 H1 Hi1 Γ1 e1 c1 q => ?_) h2 h3 h4 h5
  exact hb C Hi1 σ1 H1 Γ1 Dn Dd Xd c1 q (fun σ' H' Hi' Γ' e => h1 σ' H' Hi' Γ' (e1.trans e)) (fun v r σ' H' Hi' Γ' e => h2 v r σ' H' Hi' Γ' (e1.trans e))
    (fun σ' H' Hi' Γ' e => h3 σ' H' Hi' Γ' (e1.trans e)) (fun σ' H' Hi' Γ' e => h4 σ' H' Hi' Γ' (e1.trans e)) fun x c d σ' H' Hi' Γ' e => h5 x c d σ' H' Hi' Γ' (e1.trans e)
theorem Out.rel {v : V} {r : R} (o : Out G C Hi σ H Γ v r) : Rel G C Hi σ H Γ := by
  cases r with
  | sh d => exact o.1
  | vr i => exact o.1
  | ow d => exact o.2.trunc o.1
  | op t d => exact o.2.trunc o.1
theorem sim_drop {t : TE} {w : WE} (h : SimE G W t w) : SimS G W (tDrop t) (wDrop w) := fun C Hi σ H Γ Dn Dd Xd c hw h1 _ _ _ h5 =>
  h C Hi σ H Γ _ _ Xd c hw (fun v r H1 Hi1 Γ1 e1 o1 q => h1 σ H1 Hi1 Γ1 e1 o1.rel q) fun x c d => h5 x c d σ
theorem sim_ret {t : TE} {w : WE} (h : SimE G W t w) : SimS G W (tRet t) (wRet w) := fun C Hi σ H Γ Dn Dd Xd c hw _ h2 _ _ h5 =>
  h C Hi σ H Γ _ _ Xd c hw (fun v r H1 Hi1 Γ1 e1 o1 q => h2 v r σ H1 Hi1 Γ1 e1 o1 q) fun x c d => h5 x c d σ
theorem sim_ifS {tc : TT} {wc : WT} {t u : TS} {a b : WS} (hc : SimT G W tc wc) (ha : SimS G W t a) (hb : SimS G W u b) : SimS G W (tIfS tc t u) (wIfS wc a b) := by
  intro C Hi σ H Γ Dn Dd Xd c hw h1 h2 h3 h4 h5
  refine hc C Hi σ H Γ _ _ Xd c hw (fun z H1 Hi1 Γ1 e1 c1 q => ?_) fun x c d => h5 x c d σ
  cases z with
  | true =>
    exact ha C Hi1 σ H1 Γ1 Dn Dd Xd c1 q (fun σ' H' Hi' Γ' e => h1 σ' H' Hi' Γ' (e1.trans e)) (fun v r σ' H' Hi' Γ' e => h2 v r σ' H' Hi' Γ' (e1.trans e))
      (fun σ' H' Hi' Γ' e => h3 σ' H' Hi' Γ' (e1.trans e)) (fun σ' H' Hi' Γ' e => h4 σ' H' Hi' Γ' (e1.trans e)) fun x c d σ' H' Hi' Γ' e => h5 x c d σ' H' Hi' Γ' (e1.trans e)
  | false =>
    exact hb C Hi1 σ H1 Γ1 Dn Dd Xd c1 q (fun σ' H' Hi' Γ' e => h1 σ' H' Hi' Γ' (e1.trans e)) (fun v r σ' H' Hi' Γ' e => h2 v r σ' H' Hi' Γ' (e1.trans e))
      (fun σ' H' Hi' Γ' e => h3 σ' H' Hi' Γ' (e1.trans e)) (fun σ' H' Hi' Γ' e => h4 σ' H' Hi' Γ' (e1.trans e)) fun x c d σ' H' Hi' Γ' e => h5 x c d σ' H' Hi' Γ' (e1.trans e)

theorem set_far {α : Type} {l : List α} {i : Nat} {x : α} (h : ¬ i < l.length) : l.set i x = l := List.set_eq_of_length_le (by omega)
theorem Rel.setSh {i : Nat} {v : V} {d : D} (c : Rel G C Hi σ H Γ) (r : Rep G.K Hi v d) : Rel G C Hi (σ.set i (some v)) H (Γ.set i (.sh d)) := by
  by_cases hi : i < Γ.length
  · exact c.put_sh hi r
  · rw [set_far hi, set_far (by rw [← c.len]; exact hi)]; exact c
theorem Rel.setOw {i : Nat} {x : Option V} {s : Sl} (c : Rel G C Hi (σ ++ [x]) H (Γ ++ [s])) (hl : Γ.length = σ.length) : Rel G C Hi (σ.set i x) H (Γ.set i s) := by
  by_cases hi : i < Γ.length
  · exact c.move hl hi
  · rw [set_far hi, set_far (by rw [← hl]; exact hi)]; exact c.trunc hl
def setR (i : Nat) (r : R) (Γ : Ev) (k : Ev → Prop) : Prop := match r with
  | .sh d => k (Γ.set i (.sh d))
  | .ow d => k (Γ.set i (.ow d))
  | .vr j => frW (.vr j) Γ fun d Γ1 => k (Γ1.set i (.sh d))
  | .op t d => 10 ≤ t ∧ k (Γ.set i (.op t d))
def wSet (i : Nat) (w : WE) : WS := fun Γ D X => w Γ (fun r Γ1 => setR i r Γ1 D.nx) X
theorem Out.setR {v : V} {r : R} {i : Nat} {k : Ev → Prop} (o : Out G C Hi σ H Γ v r) (q : setR i r Γ k) : ∃ Hi' Γ', Ext Hi Hi' ∧ Rel G C Hi' (σ.set i (some v)) H Γ' ∧ k Γ' := by
  cases r with
  | sh d => exact ⟨Hi, _, Ext.refl _, o.1.setSh o.2, q⟩
  | ow d => exact ⟨Hi, _, Ext.refl _, o.2.setOw o.1, q⟩
  | vr j =>
    obtain ⟨d, Hi', Γ', e, c, r, q⟩ := o.share (k := fun d Γ1 => k (Γ1.set i (.sh d))) q
    exact ⟨Hi', _, e, c.setSh r, q⟩
  | op t d => exact ⟨Hi, _, Ext.refl _, o.2.setOw o.1, q.2⟩
theorem sim_set {t : TE} {w : WE} (i : Nat) (h : SimE G W t w) : SimS G W (tAsg t (gName i)) (wSet i w) := by
  intro C Hi σ H Γ Dn Dd Xd c hw h1 _ _ _ h5
  refine h C Hi σ H Γ _ _ Xd c hw (fun v r H1 Hi1 Γ1 e1 o1 q => ?_) fun x c d => h5 x c d σ
  obtain ⟨Hi2, Γ2, e2, c2, q2⟩ := o1.setR q
  exact h1 _ H1 Hi2 Γ2 (e1.trans e2) c2 q2

abbrev WG := D → Ev → (Ev → Prop) → Prop
def SimG (G : Gb) (g : TG) (w : WG) : Prop := ∀ (C : Cf) (Hi : Hp) (σ : St) (H : Hp) (Γ : Ev) (v : V) (d : D) (Q : St → Hp → Prop) (Qd : Ev → Prop), Rel G C Hi σ H Γ → Rep G.K Hi v d → w d Γ Qd →
  (∀ σ' Γ', Rel G C Hi σ' H Γ' → Qd Γ' → Q σ' H) → g v σ H Q
abbrev WGs := List D → Ev → (Ev → Prop) → Prop
def SimGs (G : Gb) (g : TGs) (w : WGs) : Prop := ∀ (C : Cf) (Hi : Hp) (σ : St) (H : Hp) (Γ : Ev) (vs : List V) (ds : List D) (Q : St → Hp → Prop) (Qd : Ev → Prop), Rel G C Hi σ H Γ → Reps G.K Hi vs ds → w ds Γ Qd →
  (∀ σ' Γ', Rel G C Hi σ' H Γ' → Qd Γ' → Q σ' H) → g vs σ H Q
def wgName (i : Nat) : WG := fun d Γ k => k (Γ.set i (.sh d))
theorem simg_name (i : Nat) : SimG G (gName i) (wgName i) := fun C Hi σ H Γ v d Q Qd c r hw h => h _ _ (c.setSh r) hw
def wgNil : WGs := fun ds Γ k => match ds with
  | [] => k Γ
  | _ => False
def wgCons (a : WG) (b : WGs) : WGs := fun ds Γ k => match ds with
  | [] => False
  | d :: r => a d Γ fun Γ1 => b r Γ1 k
theorem simg_nil : SimGs G gNil wgNil := by
  intro C Hi σ H Γ vs ds Q Qd c r hw h
  cases r with
  | nil => exact ⟨rfl, h _ _ c hw⟩
  | cons _ _ => exact hw.elim
theorem simg_cons {g : TG} {a : WG} {gs : TGs} {b : WGs} (ha : SimG G g a) (hb : SimGs G gs b) : SimGs G (gCons g gs) (wgCons a b) := by
  intro C Hi σ H Γ vs ds Q Qd c r hw h
  cases r with
  | nil => exact hw.elim
  | cons r1 rr => exact ⟨_, _, rfl, ha C Hi σ H Γ _ _ _ _ c r1 hw fun σ' Γ' c' q => hb C Hi σ' H Γ' _ _ _ _ c' rr q h⟩
def wgTup (n : Nat) (b : WGs) : WG := fun d Γ k => match d with
  | .tuple ds => ds.length = n ∧ b ds Γ k
  | _ => False
theorem simg_tup {n : Nat} {gs : TGs} {b : WGs} (hb : SimGs G gs b) : SimG G (gTup G.K n gs) (wgTup n b) := by
  intro C Hi σ H Γ v d Q Qd c r hw h
  cases r with
  | tup s r =>
    obtain ⟨hl, hw⟩ := hw
    exact ⟨_, _, rfl, SqT.of (c.imm _ _ s), by rw [r.length]; exact hl, hb C Hi σ H Γ _ _ _ _ c r hw h⟩
  | _ => exact hw.elim
def wAsg (w : WE) (g : WG) : WS := fun Γ D X => w Γ (fun r Γ1 => frW r Γ1 fun d Γ2 => g d Γ2 D.nx) X
theorem sim_asg {t : TE} {w : WE} {g : TG} {wg : WG} (h : SimE G W t w) (hg : SimG G g wg) : SimS G W (tAsg t g) (wAsg w wg) := by
  intro C Hi σ H Γ Dn Dd Xd c hw h1 _ _ _ h5
  refine h C Hi σ H Γ _ _ Xd c hw (fun v r H1 Hi1 Γ1 e1 o1 q => ?_) fun x c d => h5 x c d σ
  obtain ⟨d, Hi2, Γ2, e2, c2, r2, q2⟩ := o1.share q
  exact hg C Hi2 σ H1 Γ2 v d _ _ c2 r2 q2 fun σ' Γ' c' q' => h1 σ' H1 Hi2 Γ' (e1.trans e2) c' q'

def wAug (i : Nat) (o : Op2) (w : WE) : WS := fun Γ D X => match Γ[i]? with
  | some (.sh a) => w Γ (fun r Γ1 => rdW r Γ1 fun b => o a b fun r2 => setR i r2 Γ1 D.nx) X
  | _ => False
structure Items (K : Fg) (Hi : Hp) (J : It) (ds : List D) : Prop where
  stop : ∀ Hi' H i, Ext Hi Hi' → Ext Hi' H → ds.length ≤ i → J.stop i H
  go : ∀ Hi' H i, Ext Hi Hi' → Ext Hi' H → i < ds.length → J.go i H
  yld : ∀ Hi' H i x H' d, Ext Hi Hi' → Ext Hi' H → ds[i]? = some d → J.yld i H x H' → ∃ Hi2, Ext Hi' Hi2 ∧ Ext H H' ∧ Ext Hi2 H' ∧ (∀ a o, Hi2 a = some o → Hi' a = some o ∨ H a = none) ∧ Rep K Hi2 x d
abbrev WI := Ev → (List D → Ev → Prop) → XW → Prop
def SimI (G : Gb) (W : WX) (t : TI) (w : WI) : Prop := ∀ (C : Cf) (Hi : Hp) (σ : St) (H : Hp) (Γ : Ev) (R : It → Hp → Prop) (Qd : List D → Ev → Prop) (Xd : XW), Rel G C Hi σ H Γ → w Γ Qd Xd →
  (∀ J ds H' Hi' Γ', Ext Hi Hi' → Rel G C Hi' σ H' Γ' → Items G.K Hi' J ds → Qd ds Γ' → R J H') →
  (∀ x c d H' Hi' Γ', Ext Hi Hi' → Rel G C Hi' σ H' Γ' → G.xr x c d Hi' → Xd x Γ' → W c d σ H') → t σ H R
def loopW (g : WG) (b : WS) (D : WD) (X : XW) : List PyData → Ev → Prop
  | [], Γ => D.nx Γ
  | d :: ds, Γ => g d Γ fun Γ1 => b Γ1 ⟨loopW g b D X ds, D.rt, D.nx, loopW g b D X ds⟩ X
def wFor (wi : WI) (g : WG) (b : WS) : WS := fun Γ D X => wi Γ (fun ds Γ1 => loopW g b D X ds Γ1) X
theorem sim_for {ti : TI} {wi : WI} {g : TG} {wg : WG} {tb : TS} {wb : WS} (hi : SimI G W ti wi) (hg : SimG G g wg) (hb : SimS G W tb wb) : SimS G W (tFor ti g tb) (wFor wi wg wb) := by
  intro C Hi σ H Γ Dn Dd Xd c hw h1 h2 h3 h4 h5
  refine hi C Hi σ H Γ _ _ Xd c hw (fun J ds H1 Hi1 Γ1 e1 c1 it q => ?_) fun x c d => h5 x c d σ
  refine ⟨fun i m σ' H' => m = ds.length - i ∧ i ≤ ds.length ∧ ∃ Hi' Γ', Ext Hi1 Hi' ∧ Rel G C Hi' σ' H' Γ' ∧ loopW wg wb Dd Xd (ds.drop i) Γ', ⟨ds.length, by simp, Nat.zero_le _, Hi1, Γ1, Ext.refl _, c1, q⟩, ?_⟩
  rintro i m σ2 H2 ⟨rfl, hil, Hi2, Γ2, e2, c2, q2⟩
  by_cases hlt : i < ds.length
  · have hd : ds.drop i = ds[i] :: ds.drop (i + 1) := List.drop_eq_getElem_cons hlt
    rw [hd] at q2
    refine .inr ⟨it.go Hi2 H2 i e2 c2.imm hlt, fun σ' H' => ∃ Hi' Γ', Ext Hi1 Hi' ∧ Rel G C Hi' σ' H' Γ' ∧ loopW wg wb Dd Xd (ds.drop (i + 1)) Γ', fun σ' H' z => ⟨ds.length - (i + 1), by omega, rfl, hlt, z⟩, fun x H3 y => ?_⟩
    obtain ⟨Hi3, e3, k3, im3, ov3, r3⟩ := it.yld Hi2 H2 i x H3 ds[i] e2 c2.imm (List.getElem?_eq_getElem hlt) y
    have c3 := c2.grow k3 e3 im3 ov3
    refine hg C Hi3 σ2 H3 Γ2 x _ _ _ c3 r3 q2 fun σ4 Γ4 c4 q4 => ?_
    have f3 := (e1.trans e2).trans e3
    have f3' := e2.trans e3
    exact hb C Hi3 σ4 H3 Γ4 _ _ Xd c4 q4 (fun σ' H' Hi' Γ' e c' q' => ⟨Hi', Γ', f3'.trans e, c', q'⟩) (fun v r σ' H' Hi' Γ' e => h2 v r σ' H' Hi' Γ' (f3.trans e))
      (fun σ' H' Hi' Γ' e => h1 σ' H' Hi' Γ' (f3.trans e)) (fun σ' H' Hi' Γ' e c' q' => ⟨Hi', Γ', f3'.trans e, c', q'⟩) fun x c d σ' H' Hi' Γ' e => h5 x c d σ' H' Hi' Γ' (f3.trans e)
  · have e : i = ds.length := by omega
    subst e
    rw [List.drop_length] at q2
    exact .inl ⟨it.stop Hi2 H2 _ e2 c2.imm (Nat.le_refl _), h1 σ2 H2 Hi2 Γ2 (e1.trans e2) c2 q2⟩
def wiL (w : WE) : WI := fun Γ Q X => w Γ (fun r Γ1 => frW r Γ1 fun d Γ2 => isL d fun ds => Q ds Γ2) X
theorem Items.list {K : Fg} {a : Addr} {xs : List V} {ds : List D} (h : SqL K Hi a xs) (r : Reps K Hi xs ds) : Items K Hi (Itl K a) ds where
  stop := fun Hi' H i e k hi => ⟨xs, (e.trans k).sqL h, by rw [r.length]; exact hi⟩
  go := fun Hi' H i e k hi => by
    obtain ⟨v, h1, _⟩ := r.get (List.getElem?_eq_getElem hi)
    exact ⟨xs, v, (e.trans k).sqL h, h1⟩
  yld := fun Hi' H i x H' d e k hd y => by
    obtain ⟨rfl, y⟩ := y
    obtain ⟨v, h1, h2⟩ := r.get hd
    have := y xs ((e.trans k).sqL h)
    rw [h1] at this; cases this
    exact ⟨Hi', Ext.refl _, Ext.refl _, k, fun _ _ z => .inl z, h2.mono e⟩
theorem simi_list {t : TE} {w : WE} (h : SimE G W t w) : SimI G W (iList G.K t) (wiL w) := by
  intro C Hi σ H Γ R Qd Xd c hw hQ hX
  refine h C Hi σ H Γ _ _ Xd c hw (fun v r H1 Hi1 Γ1 e1 o1 q => ?_) hX
  obtain ⟨d, Hi2, Γ2, e2, c2, r2, q2⟩ := o1.share q
  obtain ⟨ds, rfl, q2⟩ := isL_inv q2
  cases r2 with
  | lst s r => exact ⟨_, rfl, ⟨_, SqL.of (c2.imm _ _ s)⟩, hQ _ ds H1 Hi2 Γ2 (e1.trans e2) c2 (.list (SqL.of s) r) q2⟩
def rangeD (lo : Int) (n : Nat) : List D := (List.range n).map fun (i : Nat) => .int (lo + (i : Int))
theorem rangeD_get {lo : Int} {n i : Nat} {d : D} (h : (rangeD lo n)[i]? = some d) : i < n ∧ d = .int (lo + (i : Int)) := by
  unfold rangeD at h
  rw [List.getElem?_map] at h
  by_cases hi : i < n
  · rw [List.getElem?_range hi] at h
    exact ⟨hi, (Option.some.inj h).symm⟩
  · rw [List.getElem?_eq_none (by simp; omega)] at h; cases h
theorem Items.range {K : Fg} {lo : Int} {n : Nat} : Items K Hi (Itr lo n) (rangeD lo n) where
  stop := fun Hi' H i e k hi => by
    have : n ≤ i := by simpa [rangeD] using hi
    exact this
  go := fun Hi' H i e k hi => by
    have : i < n := by simpa [rangeD] using hi
    exact this
  yld := fun Hi' H i x H' d e k hd y => by
    obtain ⟨rfl, rfl⟩ := y
    obtain ⟨_, rfl⟩ := rangeD_get hd
    exact ⟨Hi', Ext.refl _, Ext.refl _, k, fun _ _ z => .inl z, .int _⟩
def wiR1 (wa : WA) : WI := fun Γ Q X => wa Γ (fun rs Γ1 => rdAll rs Γ1 fun ds => match ds with
  | [.int j] => -(2 ^ 62) ≤ j ∧ j < 2 ^ 62 ∧ Q (rangeD 0 j.toNat) Γ1
  | _ => False) X
theorem simi_range1 {t : TA} {w : WA} (h : SimA G W t w) : SimI G W (iRng1 t) (wiR1 w) := by
  intro C Hi σ H Γ R Qd Xd c hw hQ hX
  refine h C Hi σ H Γ _ _ Xd c hw (fun vs rs H1 Hi1 Γ1 e1 c1 h1 q => ?_) hX
  obtain ⟨ds, bs, q⟩ := h1.read c1 q
  split at q
  · rename_i j
    obtain ⟨q1, q2, q⟩ := q
    cases bs with
    | cons b1 br =>
      cases br
      rw [b1.int]
      exact ⟨j, rfl, q1, q2, hQ _ _ H1 Hi1 Γ1 e1 c1 .range q⟩
  · exact q.elim
def wiR2 (wa : WA) : WI := fun Γ Q X => wa Γ (fun rs Γ1 => rdAll rs Γ1 fun ds => match ds with
  | [.int i, .int j] => (-(2 ^ 62) ≤ i ∧ i < 2 ^ 62 ∧ -(2 ^ 62) ≤ j ∧ j < 2 ^ 62) ∧ Q (rangeD i (j - i).toNat) Γ1
  | _ => False) X
def enumD (ds : List D) : List D := ds.mapIdx fun (i : Nat) d => .tuple [.int (i : Int), d]
theorem enumD_length (ds : List D) : (enumD ds).length = ds.length := by simp [enumD]
theorem enumD_get {ds : List D} {i : Nat} {d : D} (h : (enumD ds)[i]? = some d) : ∃ e, ds[i]? = some e ∧ d = .tuple [.int (i : Int), e] := by
  unfold enumD at h
  rw [List.getElem?_mapIdx] at h
  cases q : ds[i]? with
  | none => rw [q] at h; cases h
  | some e => rw [q] at h; exact ⟨e, rfl, (Option.some.inj h).symm⟩
theorem yld_tup {K : Fg} {T : Addr} {xs : List V} {ds : List D} (k : Ext Hi H) (hT : H T = none) (r : Reps K Hi xs ds) :
    ∃ Hi2, Ext Hi Hi2 ∧ Ext H (upd H T (.tup xs)) ∧ Ext Hi2 (upd H T (.tup xs)) ∧ (∀ a o, Hi2 a = some o → Hi a = some o ∨ H a = none) ∧ Rep K Hi2 (.ref T) (.tuple ds) := by
  have hn := k.none_of hT
  refine ⟨upd Hi T (.tup xs), Ext.new hn, Ext.new hT, fun a o h => ?_, fun a o h => ?_, .tup upd_same (r.mono (Ext.new hn))⟩
  · by_cases e : a = T
    · rw [e, upd_same] at h; rw [e, upd_same]; exact h
    · rw [upd_ne e] at h; rw [upd_ne e]; exact k a o h
  · by_cases e : a = T
    · rw [e]; exact .inr hT
    · rw [upd_ne e] at h; exact .inl h
theorem Items.enum {K : Fg} {a : Addr} {xs : List V} {ds : List D} (h : SqL K Hi a xs) (r : Reps K Hi xs ds) : Items K Hi (Ite K a) (enumD ds) where
  stop := fun Hi' H i e k hi => ⟨xs, (e.trans k).sqL h, by rw [r.length]; rw [enumD_length] at hi; exact hi⟩
  go := fun Hi' H i e k hi => by
    rw [enumD_length] at hi
    obtain ⟨v, h1, _⟩ := r.get (List.getElem?_eq_getElem hi)
    exact ⟨xs, v, (e.trans k).sqL h, h1⟩
  yld := fun Hi' H i x H' d e k hd y => by
    obtain ⟨T, w, rfl, hT, rfl, y⟩ := y
    obtain ⟨d', hd', rfl⟩ := enumD_get hd
    obtain ⟨v, h1, h2⟩ := r.get hd'
    have := y xs ((e.trans k).sqL h)
    rw [h1] at this; cases this
    exact yld_tup k hT (.cons (.int _) (.one (h2.mono e)))
def wiA (f : List D → List D) (wa : WA) : WI := fun Γ Q X => wa Γ (fun rs Γ1 => frAll rs Γ1 fun ds Γ2 => match ds with
  | [.list l] => Q (f l) Γ2
  | _ => False) X
theorem simi_enum {t : TA} {w : WA} (h : SimA G W t w) : SimI G W (iEnum G.K t) (wiA enumD w) := by
  intro C Hi σ H Γ R Qd Xd c hw hQ hX
  refine h C Hi σ H Γ _ _ Xd c hw (fun vs rs H1 Hi1 Γ1 e1 c1 h1 q => ?_) hX
  obtain ⟨ds, Hi2, Γ2, e2, c2, rp, q⟩ := h1.share (Ext.refl _) c1 q
  split at q
  · rename_i l
    cases rp with
    | cons r1 rr =>
      cases rr
      cases r1 with
      | lst s r => exact ⟨_, _, rfl, SqL.of (c2.imm _ _ s), hQ _ _ H1 Hi2 Γ2 (e1.trans e2) c2 (.enum (SqL.of s) r) q⟩
  · exact q.elim
theorem Items.zip {K : Fg} {a b : Addr} {xs ys : List V} {ds es : List D} (h : SqL K Hi a xs) (r : Reps K Hi xs ds) (h2 : SqL K Hi b ys) (r2 : Reps K Hi ys es) : Items K Hi (Itz K a b) (List.zipWith (fun x y => .tuple [x, y]) ds es) where
  stop := fun Hi' H i e k hi => ⟨xs, ys, (e.trans k).sqL h, (e.trans k).sqL h2, by
    have := r.length
    have := r2.length
    simp at hi
    omega⟩
  go := fun Hi' H i e k hi => by
    rw [List.length_zipWith] at hi
    obtain ⟨v, q1, _⟩ := r.get (List.getElem?_eq_getElem (show i < ds.length by omega))
    obtain ⟨w, q2, _⟩ := r2.get (List.getElem?_eq_getElem (show i < es.length by omega))
    exact ⟨xs, ys, v, w, (e.trans k).sqL h, (e.trans k).sqL h2, q1, q2⟩
  yld := fun Hi' H i x H' d e k hd y => by
    obtain ⟨T, x1, x2, rfl, hT, rfl, y1, y2⟩ := y
    rw [List.getElem?_zipWith] at hd
    cases q1 : ds[i]? with
    | none => rw [q1] at hd; cases hd
    | some d1 =>
      cases q2 : es[i]? with
      | none => rw [q1, q2] at hd; cases hd
      | some d2 =>
        rw [q1, q2] at hd
        cases hd
        obtain ⟨v, z1, z2⟩ := r.get q1
        obtain ⟨w, z3, z4⟩ := r2.get q2
        have := y1 xs ((e.trans k).sqL h)
        rw [z1] at this; cases this
        have := y2 ys ((e.trans k).sqL h2)
        rw [z3] at this; cases this
        exact yld_tup k hT (.cons (z2.mono e) (.one (z4.mono e)))
def wiZ (wa : WA) : WI := fun Γ Q X => wa Γ (fun rs Γ1 => frAll rs Γ1 fun ds Γ2 => match ds with
  | [.list l, .list m] => Q (List.zipWith (fun x y => .tuple [x, y]) l m) Γ2
  | _ => False) X
def signsD (z : Str) : List D := z.cps.toList.map fun c => .str ⟨#[c]⟩
theorem Items.str {K : Fg} {z : Str} : Items K Hi (Its z) (signsD z) where
  stop := fun Hi' H i e k hi => by
    have : z.cps.size ≤ i := by simpa [signsD] using hi
    exact this
  go := fun Hi' H i e k hi => by
    have : i < z.cps.size := by simpa [signsD] using hi
    exact this
  yld := fun Hi' H i x H' d e k hd y => by
    obtain ⟨rfl, c, hc, rfl⟩ := y
    unfold signsD at hd
    rw [List.getElem?_map, Array.getElem?_toList, hc] at hd
    cases hd
    exact ⟨Hi', Ext.refl _, Ext.refl _, k, fun _ _ z => .inl z, .str _⟩
def wiS (w : WE) : WI := fun Γ Q X => w Γ (fun r Γ1 => rdW r Γ1 fun d => isS d fun z => Q (signsD z) Γ1) X
theorem simi_str {t : TE} {w : WE} (h : SimE G W t w) : SimI G W (iStr t) (wiS w) := by
  intro C Hi σ H Γ R Qd Xd c hw hQ hX
  refine h C Hi σ H Γ _ _ Xd c hw (fun v r H1 Hi1 Γ1 e1 o1 q => ?_) hX
  obtain ⟨Hi2, e2, c2, h2⟩ := o1.hold
  obtain ⟨d, b1, q⟩ := h2.read c2 q
  obtain ⟨z, rfl, q⟩ := isS_inv q
  exact ⟨z, b1.str, hQ _ _ H1 Hi2 Γ1 (e1.trans e2) c2 .str q⟩

end
end VL

set_option Elab.async false
set_option linter.all false
set_option maxRecDepth 100000
namespace VL
open PySem L2

section
variable {X : Cx}
def rAddA (K : Fg) : R2 := fun x y H Q => rI0 (fun i j => .int (i + j)) x y H Q ∨ (∃ i j, x = .str i ∧ y = .str j ∧ i.length + j.length ≤ sizeLine ∧ Q (.str (i ++ j)) H) ∨ rCat x y H Q ∨
  (∃ i k, x = .int i ∧ y = .bl k ∧ Q (.int (i + PyProof.Rows.b2i k)) H)
theorem op_addA : OpR X (binaryOp .Add) (rAddA X.K) := op_add.or (op_add_str.or (op_cat.or op_add_ib))
def rMulA : R2 := fun x y H Q => rI CMulW (fun i j => .int (i * j)) x y H Q ∨ rRep x y H Q
theorem op_mulA : OpR X (binaryOp .Mult) rMulA := op_mulW.or op_rep
def rIxD : R2 := fun x y H Q => ∃ a v, x = .ref a ∧ DGet H a y (some v) ∧ Q v H
theorem ix_dict (hu : X.A.units + 1 < cLine) : IxR X rIxD := by
  intro value slice pins s σ H x y v u Q I rx ry h hs
  obtain ⟨a, z, rfl, g, q⟩ := h
  cases rx
  exact PyProof.Rows.tail_any (dict_typeIs I g) PySem.F.slot_dict_getitem.lookup (d_getItem hu I g ry fun w' s3 I3 rw' => ⟨z, H, I3, rw', q⟩) hs
def rIxA (K : Fg) : R2 := fun x y H Q => rIx K x y H Q ∨ rIxD x y H Q
theorem ix_any (hu : X.A.units + 1 < cLine) : IxR X (rIxA X.K) := ix_seq.or (ix_dict hu)
def rInDk : R2 := fun y x H Q => ∃ a o, x = .ref a ∧ DGet H a y o ∧ Q (.bl o.isSome) H
def rNotInDk : R2 := fun y x H Q => ∃ a o, x = .ref a ∧ DGet H a y o ∧ Q (.bl (!o.isSome)) H
theorem op_inDk (hu : X.A.units + 1 < cLine) : OpR X (compareOp .In) rInDk := by
  intro pins s σ H x y v u Q I rx ry h
  obtain ⟨a, o, rfl, g, q⟩ := h
  cases ry
  exact d_in hu I g rx fun s3 I3 => ⟨.bl o.isSome, H, I3, rfl, q⟩
theorem op_notInDk (hu : X.A.units + 1 < cLine) : OpR X (compareOp .NotIn) rNotInDk := by
  intro pins s σ H x y v u Q I rx ry h
  obtain ⟨a, o, rfl, g, q⟩ := h
  cases ry
  exact d_notIn hu I g rx fun s3 I3 => ⟨.bl (!o.isSome), H, I3, rfl, q⟩
def rInA (K : Fg) : R2 := fun x y H Q => rInD K x y H Q ∨ rIn K false x y H Q ∨ rInDk x y H Q ∨ (∃ (c : Nat) (z : Str), x = .str ⟨#[c]⟩ ∧ y = .str z ∧ Q (.bl (decide (c ∈ z.cps.toList))) H)
def rNotInA (K : Fg) : R2 := fun x y H Q => rNotInD K x y H Q ∨ rIn K true x y H Q ∨ rNotInDk x y H Q ∨ (∃ (c : Nat) (z : Str), x = .str ⟨#[c]⟩ ∧ y = .str z ∧ Q (.bl (!decide (c ∈ z.cps.toList))) H)
theorem op_inA (hu : X.A.units + 65 < cLine) : OpR X (compareOp .In) (rInA X.K) := (op_inD hu).or (op_in_seq.or ((op_inDk (by omega)).or op_in_sign))
theorem op_notInA (hu : X.A.units + 65 < cLine) : OpR X (compareOp .NotIn) (rNotInA X.K) := (op_notInD hu).or (op_notIn_seq.or ((op_notInDk (by omega)).or op_notIn_sign))
end

def keyEq : D → D → Bool
  | .int i, .int j => i == j
  | .str x, .str y => decide (x = y)
  | _, _ => false
def dget (ps : List (D × D)) (k : D) : Option D := (ps.find? fun p => keyEq p.1 k).map (·.2)
def dput (ps : List (D × D)) (k v : D) : List (D × D) := if ps.any (fun p => keyEq p.1 k) then ps.map fun p => if keyEq p.1 k = true then (p.1, v) else p else ps ++ [(k, v)]
def ddrop (ps : List (D × D)) (k : D) : List (D × D) := ps.filter fun p => !keyEq p.1 k
theorem keyEq_kD (a b : Key) : keyEq (kD a) (kD b) = decide (a = b) := by
  cases a with
  | inl i =>
    cases b with
    | inl j => rw [key_ll]; rfl
    | inr y => rw [key_lr]; rfl
  | inr x =>
    cases b with
    | inl j => rw [key_rl]; rfl
    | inr y => rw [key_rr]; rfl
def isK (d : D) (k : Prop) : Prop := match d with
  | .int _ => k
  | .str _ => k
  | _ => False
theorem isK_inv {d : D} {k : Prop} (h : isK d k) : (∃ key, d = kD key) ∧ k := by
  unfold isK at h
  split at h
  · exact ⟨⟨.inl _, rfl⟩, h⟩
  · exact ⟨⟨.inr _, rfl⟩, h⟩
  · exact h.elim
section
variable {K : Fg} {H Hi : Hp}
theorem dgetR {H : Hp} {a : Addr} {kvs : List (Key × V)} {k : Key} (e : Rd H a (.dK kvs)) : DGet H a (kV k) (valV kvs k) := .inl ⟨kvs, k, e, rfl, rfl⟩
theorem RepKV.get : ∀ {kvs : List (Key × V)} {ps : List (D × D)} {k : Key} {d : D}, RepKV K H kvs ps → dget ps (kD k) = some d → ∃ v, valV kvs k = some v ∧ Rep K H v d
  | _, _, k, d, .nil, e => by simp [dget] at e
  | _, _, k, d, @RepKV.cons _ _ k0 v0 kvs d0 ps h r, e => by
    by_cases hk : k0 = k
    · have h1 : keyEq (kD k0) (kD k) = true := by rw [keyEq_kD]; exact decide_eq_true hk
      have e2 : d0 = d := by simpa [dget, List.find?_cons, h1] using e
      subst e2
      exact ⟨v0, valV_pos hk, h⟩
    · have h1 : keyEq (kD k0) (kD k) = false := by rw [keyEq_kD]; exact decide_eq_false hk
      have e2 : dget ps (kD k) = some d := by simpa [dget, List.find?_cons, h1] using e
      obtain ⟨v, q1, q2⟩ := RepKV.get r e2
      exact ⟨v, by rw [valV_neg hk]; exact q1, q2⟩
theorem RepKV.none : ∀ {kvs : List (Key × V)} {ps : List (D × D)} {k : Key}, RepKV K H kvs ps → (dget ps (kD k) = none ↔ valV kvs k = none)
  | _, _, k, .nil => by simp [dget, valV]
  | _, _, k, @RepKV.cons _ _ k0 v0 kvs d0 ps h r => by
    by_cases hk : k0 = k
    · have h1 : keyEq (kD k0) (kD k) = true := by rw [keyEq_kD]; exact decide_eq_true hk
      have e1 : dget ((kD k0, d0) :: ps) (kD k) = some d0 := by simp [dget, List.find?_cons, h1]
      rw [e1, valV_pos (p := (k0, v0)) hk]
      simp
    · have h1 : keyEq (kD k0) (kD k) = false := by rw [keyEq_kD]; exact decide_eq_false hk
      have e1 : dget ((kD k0, d0) :: ps) (kD k) = dget ps (kD k) := by simp [dget, List.find?_cons, h1]
      rw [e1, valV_neg (p := (k0, v0)) hk]
      exact RepKV.none r
theorem RepKV.isSome {kvs : List (Key × V)} {ps : List (D × D)} {k : Key} (r : RepKV K H kvs ps) : (valV kvs k).isSome = (dget ps (kD k)).isSome := by
  cases e : dget ps (kD k) with
  | none => rw [r.none.mp e]; rfl
  | some d => obtain ⟨v, h, _⟩ := r.get e; rw [h]; rfl
theorem RepKV.any (k : Key) : ∀ {kvs : List (Key × V)} {ps : List (D × D)}, RepKV K H kvs ps → (kvs.any fun kv => decide (kv.1 = k)) = ps.any fun p => keyEq p.1 (kD k)
  | _, _, .nil => rfl
  | _, _, .cons _ r => by rw [List.any_cons, List.any_cons, RepKV.any k r, keyEq_kD]
theorem RepKV.repl {v : V} {d : D} (k : Key) (h : Rep K H v d) : ∀ {kvs : List (Key × V)} {ps : List (D × D)}, RepKV K H kvs ps →
    RepKV K H (kvs.map fun kv => if kv.1 = k then (kv.1, v) else kv) (ps.map fun p => if keyEq p.1 (kD k) = true then (p.1, d) else p)
  | _, _, .nil => .nil
  | _, _, @RepKV.cons _ _ k0 v0 kvs d0 ps h0 r => by
    rw [List.map_cons, List.map_cons]
    by_cases hk : k0 = k
    · have h1 : keyEq (kD k0) (kD k) = true := by rw [keyEq_kD]; exact decide_eq_true hk
      rw [if_pos hk, if_pos h1]
      exact .cons h (RepKV.repl k h r)
    · have h1 : ¬ keyEq (kD k0) (kD k) = true := by rw [keyEq_kD]; simpa using hk
      rw [if_neg hk, if_neg h1]
      exact .cons h0 (RepKV.repl k h r)
theorem RepKV.append : ∀ {kvs kvs' : List (Key × V)} {ps ps' : List (D × D)}, RepKV K H kvs ps → RepKV K H kvs' ps' → RepKV K H (kvs ++ kvs') (ps ++ ps')
  | _, _, _, _, .nil, s => s
  | _, _, _, _, .cons h r, s => .cons h (RepKV.append r s)
theorem RepKV.put {kvs : List (Key × V)} {ps : List (D × D)} {k : Key} {v : V} {d : D} (r : RepKV K H kvs ps) (h : Rep K H v d) : RepKV K H (putK kvs k v) (dput ps (kD k) d) := by
  unfold putK dput
  rw [r.any k]
  split
  · exact r.repl k h
  · exact r.append (.cons h .nil)
theorem RepKV.drop (k : Key) : ∀ {kvs : List (Key × V)} {ps : List (D × D)}, RepKV K H kvs ps → RepKV K H (dropK kvs k) (ddrop ps (kD k))
  | _, _, .nil => .nil
  | _, _, @RepKV.cons _ _ k0 v0 kvs d0 ps h r => by
    unfold dropK ddrop
    by_cases hk : k0 = k
    · have h1 : keyEq (kD k0) (kD k) = true := by rw [keyEq_kD]; exact decide_eq_true hk
      rw [List.filter_cons_of_neg (by simpa using hk), List.filter_cons_of_neg (by simp [h1])]
      exact RepKV.drop k r
    · have h1 : keyEq (kD k0) (kD k) = false := by rw [keyEq_kD]; exact decide_eq_false hk
      rw [List.filter_cons_of_pos (by simpa using hk), List.filter_cons_of_pos (by simp [h1])]
      exact .cons h (RepKV.drop k r)
theorem RepKV.length : ∀ {kvs : List (Key × V)} {ps : List (D × D)}, RepKV K H kvs ps → kvs.length = ps.length
  | _, _, .nil => rfl
  | _, _, .cons _ r => congrArg (· + 1) (RepKV.length r)
theorem Rep.key {y : V} {k : Key} (h : Rep K H y (kD k)) : y = kV k := by
  cases k with
  | inl i => cases h; rfl
  | inr x => cases h; rfl
theorem Rdb.key {y : V} {k : Key} (h : Rdb K Hi H y (kD k)) : y = kV k := by
  rcases h with h | ⟨p, _, h⟩
  · exact h.key
  · cases k <;> cases h
end

section
variable {G : Gb} {C : Cf} {Hi Hi' H H' : Hp} {σ : St} {Γ : Ev} {W : WX}
def oAdd : Op2 := fun a b k => match a, b with
  | .int i, .int j => k (.sh (.int (i + j)))
  | .str x, .str y => x.length + y.length ≤ sizeLine ∧ k (.sh (.str (x ++ y)))
  | .list xs, .list ys => xs.length + ys.length ≤ sizeLine ∧ k (.ow (.list (xs ++ ys)))
  | .int i, .bool b => k (.sh (.int (i + PyProof.Rows.b2i b)))
  | _, _ => False
theorem sem_add : Sem2 G (rAddA G.K) oAdd := by
  intro C Hi σ H Γ x y a b k Q c ha hb h q
  unfold oAdd at h
  split at h
  · exact .inl ⟨_, _, ha.int, hb.int, q _ _ H Hi (Ext.refl _) (out_int c _) h⟩
  · exact .inr (.inl ⟨_, _, ha.str, hb.str, h.1, q _ _ H Hi (Ext.refl _) (out_str c _) h.2⟩)
  · obtain ⟨p, xs, e1, s1, r1⟩ := ha.list c.imm
    obtain ⟨p', ys, e2, s2, r2⟩ := hb.list c.imm
    refine .inr (.inr (.inl ⟨p, p', xs, ys, e1, e2, s1, s2, by rw [r1.length, r2.length]; exact h.1, fun t ht => q _ _ _ Hi (Ext.refl _) (Out.newL c ht (r1.append r2)) h.2⟩))
  · exact .inr (.inr (.inr ⟨_, _, ha.int, hb.bl, q _ _ H Hi (Ext.refl _) (out_int c _) h⟩))
  · exact h.elim
theorem sem_sub : Sem2 G (rI0 fun i j => .int (i - j)) (oII (fun _ _ => True) (· - ·)) := sem_II0
def oMul : Op2 := fun a b k => match a, b with
  | .int i, .int j => CMulW i j ∧ k (.sh (.int (i * j)))
  | .list l, .int j => (-(2 ^ 63) ≤ j ∧ j < 2 ^ 63) ∧ l.length * j.toNat ≤ sizeLine ∧ k (.ow (.list (List.replicate j.toNat l).flatten))
  | _, _ => False
theorem sem_mul : Sem2 G rMulA oMul := by
  intro C Hi σ H Γ x y a b k Q c ha hb h q
  unfold oMul at h
  split at h
  · exact .inl ⟨_, _, ha.int, hb.int, h.1, q _ _ H Hi (Ext.refl _) (out_int c _) h.2⟩
  · obtain ⟨p, xs, rfl, s1, r1⟩ := ha.list c.imm
    exact .inr ⟨p, _, xs, rfl, hb.int, s1, h.1.1, h.1.2, by rw [r1.length]; exact h.2.1, fun p' hp => q _ _ _ Hi (Ext.refl _) (Out.newL c hp (r1.repl _)) h.2.2⟩
  · exact h.elim
theorem sem_fdiv : Sem2 G (rI CDivW fun i j => .int (i / j)) (oII CDivW (· / ·)) := sem_II (fun _ _ h => h) fun _ _ _ => rfl
theorem sem_mod : Sem2 G (rI (fun _ j => 0 < j) fun i j => .int (i % j)) (oII (fun _ j => 0 < j) (· % ·)) := sem_II (fun _ _ h => h) fun _ _ _ => rfl
theorem sem_neg : Sem1 G (rU fun i => .int (-i)) (fun a k => isI a fun i => k (.sh (.int (-i)))) := by
  intro C Hi σ H Γ x a k Q c ha h q
  obtain ⟨i, rfl, h⟩ := isI_inv h
  exact ⟨i, ha.int, q _ _ H Hi (Ext.refl _) (out_int c _) h⟩
def oIx : Op2 := fun a b k => match a with
  | .list l => isI b fun i => match atI l i with
    | some d => k (.sh d)
    | none => False
  | .tuple l => isI b fun i => match atI l i with
    | some d => k (.sh d)
    | none => False
  | .str z => isI b fun i => z.length ≤ sizeLine ∧ match atI z.cps.toList i with
    | some c => k (.sh (.str ⟨#[c]⟩))
    | none => False
  | .dict ps => isK b (match dget ps b with
    | some d => k (.sh d)
    | none => False)
  | _ => False
theorem atI_rep {K : Fg} {xs : List V} {ds : List D} {i : Int} {d : D} (r : Reps K Hi xs ds) (h : atI ds i = some d) : ∃ v, atI xs i = some v ∧ Rep K Hi v d := by
  unfold atI at h ⊢
  rw [r.length]
  obtain ⟨j, h1, h2⟩ := Option.bind_eq_some_iff.mp h
  obtain ⟨v, h3, h4⟩ := r.get h2
  exact ⟨v, by rw [h1]; exact h3, h4⟩
theorem sem_ix : Sem2 G (rIxA G.K) oIx := by
  intro C Hi σ H Γ x y a b k Q c ha hb h q
  unfold oIx at h
  split at h
  · obtain ⟨i, rfl, h1⟩ := isI_inv h
    split at h1
    · rename_i d e
      obtain ⟨p, xs, e1, s1, r1⟩ := ha.list c.imm
      obtain ⟨v, e2, r2⟩ := atI_rep r1 e
      exact .inl (.inl ⟨p, xs, i, v, e1, hb.int, SqL.of s1, e2, q v (.sh d) H Hi (Ext.refl _) ⟨c, r2⟩ h1⟩)
    · exact h1.elim
  · obtain ⟨i, rfl, h1⟩ := isI_inv h
    split at h1
    · rename_i d e
      obtain ⟨p, xs, e1, s1, r1⟩ := ha.tuple c.imm
      obtain ⟨v, e2, r2⟩ := atI_rep r1 e
      exact .inl (.inr (.inl ⟨p, xs, i, v, e1, hb.int, SqT.of s1, e2, q v (.sh d) H Hi (Ext.refl _) ⟨c, r2⟩ h1⟩))
    · exact h1.elim
  · obtain ⟨i, rfl, hz, h1⟩ := isI_inv h
    split at h1
    · rename_i z d e
      exact .inl (.inr (.inr ⟨_, i, d, ha.str, hb.int, hz, e, q _ _ H Hi (Ext.refl _) (out_str c _) h1⟩))
    · exact h1.elim
  · obtain ⟨⟨key, rfl⟩, h1⟩ := isK_inv h
    split at h1
    · rename_i d e
      obtain ⟨p, kvs, e1, s1, r1⟩ := ha.dict c.imm
      obtain ⟨v, e2, r2⟩ := r1.get e
      refine .inr ⟨p, v, e1, ?_, q v (.sh d) H Hi (Ext.refl _) ⟨c, r2⟩ h1⟩
      rw [hb.key, ← e2]
      exact dgetR s1
    · exact h1.elim
  · exact h.elim
def flatD : D → Bool
  | .none => true
  | .bool _ => true
  | .int _ => true
  | .str _ => true
  | _ => false
theorem flat_v {K : Fg} {x : V} {d : D} (h : Rep K Hi x d) (f : flatD d = true) : flatV x = true := by
  cases h <;> first | rfl | cases f
theorem flat_eq {K : Fg} {x y : V} {d e : D} (h : Rep K Hi x d) (h2 : Rep K Hi y e) (f : flatD d = true) (f2 : flatD e = true) : eqV x y = PyData.eqv d e := by
  cases h <;> cases h2 <;> first | rfl | (simp [eqV, PyData.eqv]; done) | cases f | cases f2
theorem flat_all {K : Fg} : ∀ {xs : List V} {ds : List D}, Reps K Hi xs ds → ds.all flatD = true → xs.all flatV = true
  | _, _, .nil, _ => rfl
  | _, _, .cons h r, f => by
    rw [List.all_cons, Bool.and_eq_true] at f ⊢
    exact ⟨flat_v h f.1, flat_all r f.2⟩
theorem flat_in {K : Fg} {x : V} {d : D} (h : Rep K Hi x d) (f : flatD d = true) : ∀ {xs : List V} {ds : List D}, Reps K Hi xs ds → ds.all flatD = true → inV x xs = ds.any fun z => PyData.eqv z d
  | _, _, .nil, _ => rfl
  | _, _, .cons h1 r, g => by
    rw [List.all_cons, Bool.and_eq_true] at g
    have ih := flat_in h f r g.2
    unfold inV at ih ⊢
    rw [List.any_cons, List.any_cons, ih, flat_eq h1 h g.1 f]
def oIn (neg : Bool) : Op2 := fun a b k => match b with
  | .list ds => SeqAt.shaped a = true ∧ SeqAt.shaped (.list ds) = true ∧ k (.sh (.bool (if neg then !(ds.any fun z => PyData.eqv z a) else ds.any fun z => PyData.eqv z a)))
  | .tuple ds => flatD a = true ∧ ds.all flatD = true ∧ k (.sh (.bool (if neg then !(ds.any fun z => PyData.eqv z a) else ds.any fun z => PyData.eqv z a)))
  | .dict ps => isK a (k (.sh (.bool (if neg then !(dget ps a).isSome else (dget ps a).isSome))))
  | .str z => isS a fun y => ∃ c, y = ⟨#[c]⟩ ∧ k (.sh (.bool (if neg then !decide (c ∈ z.cps.toList) else decide (c ∈ z.cps.toList))))
  | _ => False
theorem Rdb.flat {K : Fg} {x : V} {d : D} (h : Rdb K Hi H x d) (f : flatD d = true) : Rep K Hi x d := by
  rcases h with h | ⟨p, _, h⟩
  · exact h
  · cases h <;> cases f
theorem sem_in : Sem2 G (rInA G.K) (oIn false) := by
  intro C Hi σ H Γ x y a b k Q c ha hb h q
  unfold oIn at h
  split at h
  · obtain ⟨s1, s2, h⟩ := h
    exact .inl ⟨a, _, ha.dp c.imm s1, hb.dp c.imm s2, s1, s2, q _ _ H Hi (Ext.refl _) (out_bl c _) h⟩
  · obtain ⟨s1, s2, h⟩ := h
    obtain ⟨p, xs, e1, t1, r1⟩ := hb.tuple c.imm
    refine .inr (.inl ⟨p, xs, e1, .inr (SqT.of t1), flat_v (ha.flat s1) s1, flat_all r1 s2, ?_⟩)
    rw [flat_in (ha.flat s1) s1 r1 s2]
    exact q _ _ H Hi (Ext.refl _) (out_bl c _) h
  · obtain ⟨⟨key, rfl⟩, h1⟩ := isK_inv h
    obtain ⟨p, kvs, e1, t1, r1⟩ := hb.dict c.imm
    refine .inr (.inr (.inl ⟨p, _, e1, by rw [ha.key]; exact dgetR t1, ?_⟩))
    rw [r1.isSome]
    exact q _ _ H Hi (Ext.refl _) (out_bl c _) h1
  · obtain ⟨z, rfl, ch, rfl, h1⟩ := isS_inv h
    exact .inr (.inr (.inr ⟨ch, _, ha.str, hb.str, q _ _ H Hi (Ext.refl _) (out_bl c _) h1⟩))
  · exact h.elim
theorem sem_notin : Sem2 G (rNotInA G.K) (oIn true) := by
  intro C Hi σ H Γ x y a b k Q c ha hb h q
  unfold oIn at h
  split at h
  · obtain ⟨s1, s2, h⟩ := h
    exact .inl ⟨a, _, ha.dp c.imm s1, hb.dp c.imm s2, s1, s2, q _ _ H Hi (Ext.refl _) (out_bl c _) h⟩
  · obtain ⟨s1, s2, h⟩ := h
    obtain ⟨p, xs, e1, t1, r1⟩ := hb.tuple c.imm
    refine .inr (.inl ⟨p, xs, e1, .inr (SqT.of t1), flat_v (ha.flat s1) s1, flat_all r1 s2, ?_⟩)
    rw [flat_in (ha.flat s1) s1 r1 s2]
    exact q _ _ H Hi (Ext.refl _) (out_bl c _) h
  · obtain ⟨⟨key, rfl⟩, h1⟩ := isK_inv h
    obtain ⟨p, kvs, e1, t1, r1⟩ := hb.dict c.imm
    refine .inr (.inr (.inl ⟨p, _, e1, by rw [ha.key]; exact dgetR t1, ?_⟩))
    rw [r1.isSome]
    exact q _ _ H Hi (Ext.refl _) (out_bl c _) h1
  · obtain ⟨z, rfl, ch, rfl, h1⟩ := isS_inv h
    exact .inr (.inr (.inr ⟨ch, _, ha.str, hb.str, q _ _ H Hi (Ext.refl _) (out_bl c _) h1⟩))
  · exact h.elim

def SimO (G : Gb) (W : WX) (t : TO) (w : Ev → (Option Int → Ev → Prop) → XW → Prop) : Prop := ∀ (C : Cf) (Hi : Hp) (σ : St) (H : Hp) (Γ : Ev) (Q : Option Int → Hp → Prop) (Qd : Option Int → Ev → Prop) (Xd : XW), Rel G C Hi σ H Γ → w Γ Qd Xd →
  (∀ o H' Hi' Γ', Ext Hi Hi' → Rel G C Hi' σ H' Γ' → Qd o Γ' → Q o H') →
  (∀ x c d H' Hi' Γ', Ext Hi Hi' → Rel G C Hi' σ H' Γ' → G.xr x c d Hi' → Xd x Γ' → W c d σ H') → t σ H Q
abbrev WO := Ev → (Option Int → Ev → Prop) → XW → Prop
def wNoP : WO := fun Γ Q _ => Q none Γ
def wPart (w : WE) : WO := fun Γ Q X => w Γ (fun r Γ1 => rdW r Γ1 fun d => isI d fun i => Q (some i) Γ1) X
theorem simo_none : SimO G W tNoPart wNoP := fun C Hi σ H Γ Q Qd Xd c hw hQ hX => hQ none H Hi Γ (Ext.refl _) c hw
theorem simo_some {t : TE} {w : WE} (h : SimE G W t w) : SimO G W (tPart t) (wPart w) := by
  intro C Hi σ H Γ Q Qd Xd c hw hQ hX
  refine h C Hi σ H Γ _ _ Xd c hw (fun v r H1 Hi1 Γ1 e1 o1 q => ?_) hX
  obtain ⟨Hi2, e2, c2, h2⟩ := o1.hold
  obtain ⟨d, b1, q⟩ := h2.read c2 q
  obtain ⟨i, rfl, q⟩ := isI_inv q
  exact ⟨i, b1.int, hQ _ H1 Hi2 Γ1 (e1.trans e2) c2 q⟩
def cutD (xs : List D) (lo hi : Option Int) : List D := (xs.drop (HT.sIx xs.length 0 lo)).take (HT.sIx xs.length xs.length hi - HT.sIx xs.length 0 lo)
def wSlL (wa : WE) (wl wh : WO) : WE := fun Γ Q X => wa Γ (fun r Γ1 => wl Γ1 (fun lo Γ2 => wh Γ2 (fun hi Γ3 => rdW r Γ3 fun d => isL d fun ds => Q (.ow (.list (cutD ds lo hi))) Γ3) X) X) X
def o1 (o : Op1) : OpN := fun ds k => match ds with
  | [d] => o d k
  | _ => False
def o2 (o : Op2) : OpN := fun ds k => match ds with
  | [a, b] => o a b k
  | _ => False
theorem semN_1 {r : List V → Hp → VK → Prop} {o : Op1} (h : ∀ {C : Cf} {Hi : Hp} {σ : St} {H : Hp} {Γ : Ev} {x : V} {a : D} {k : R → Prop} {Q : VK}, Rel G C Hi σ H Γ → Rdb G.K Hi H x a → o a k →
    (∀ v r H' Hi', Ext Hi Hi' → Out G C Hi' σ H' Γ v r → k r → Q v H') → r [x] H Q) : SemN G r (o1 o) := by
  intro C Hi σ H Γ xs ds k Q c hb hw q
  cases hb with
  | nil => exact hw.elim
  | cons b1 br =>
    cases br with
    | nil => exact h c b1 hw q
    | cons b2 br => exact hw.elim
theorem semN_2 {r : List V → Hp → VK → Prop} {o : Op2} (h : ∀ {C : Cf} {Hi : Hp} {σ : St} {H : Hp} {Γ : Ev} {x y : V} {a b : D} {k : R → Prop} {Q : VK}, Rel G C Hi σ H Γ → Rdb G.K Hi H x a → Rdb G.K Hi H y b → o a b k →
    (∀ v r H' Hi', Ext Hi Hi' → Out G C Hi' σ H' Γ v r → k r → Q v H') → r [x, y] H Q) : SemN G r (o2 o) := by
  intro C Hi σ H Γ xs ds k Q c hb hw q
  cases hb with
  | nil => exact hw.elim
  | cons b1 br =>
    cases br with
    | nil => exact hw.elim
    | cons b2 br =>
      cases br with
      | nil => exact h c b1 b2 hw q
      | cons b3 br => exact hw.elim
def oLen : Op1 := fun d k => match d with
  | .list l => k (.sh (.int l.length))
  | .tuple l => k (.sh (.int l.length))
  | .str z => z.length ≤ sizeLine ∧ k (.sh (.int z.length))
  | .dict ps => k (.sh (.int ps.length))
  | _ => False
def rLenA (K : Fg) : List V → Hp → VK → Prop := fun xs H Q => (∃ x n, xs = [x] ∧ LenV K x H n ∧ Q (.int n) H) ∨ ∃ d kvs, xs = [.ref d] ∧ Rd H d (.dK kvs) ∧ Q (.int kvs.length) H
end
end VL

set_option Elab.async false
set_option linter.all false
set_option maxRecDepth 100000
namespace VL
open PySem L2

def rIntA : List V → Hp → VK → Prop := fun xs H Q => (∃ i, xs = [.int i] ∧ Q (.int i) H) ∨ ∃ k, xs = [.bl k] ∧ Q (.int (if k then 1 else 0)) H
def rMax2A : List V → Hp → VK → Prop := fun xs H Q => ∃ i j, xs = [.int i, .int j] ∧ Q (.int (if j > i then j else i)) H
def rMin2A : List V → Hp → VK → Prop := fun xs H Q => ∃ i j, xs = [.int i, .int j] ∧ Q (.int (if j < i then j else i)) H
def rAbsA : List V → Hp → VK → Prop := fun xs H Q => ∃ i, xs = [.int i] ∧ Q (.int (if i < 0 then -i else i)) H
def rStrIA : List V → Hp → VK → Prop := fun xs H Q => ∃ i, xs = [.int i] ∧ i.natAbs.log2 < 1920 ∧ Q (.str (toString i)) H
section
variable {X : Cx}
theorem call_lenR : CallR X (.builtin "len") (fun xs H Q => ∃ d kvs, xs = [V.ref d] ∧ Rd H d (.dK kvs) ∧ Q (.int kvs.length) H) := by
  intro pins s σ H xs us Q I r h
  obtain ⟨d, kvs, rfl, hd, q⟩ := h
  obtain ⟨u, rfl, ru⟩ := vals1 r
  cases ru
  exact d_len I hd fun t s' I' => ⟨.int kvs.length, H, I', ⟨t, rfl⟩, q⟩
theorem call_lenA : CallR X (.builtin "len") (rLenA X.K) := CallR.or call_len call_lenR
theorem call_intA : CallR X (.type "int") rIntA := call_int1
theorem call_max2A (hc : X.calm = true) : CallR X (.builtin "max") rMax2A := call_max2 hc
theorem call_min2A (hc : X.calm = true) : CallR X (.builtin "min") rMin2A := call_min2 hc
theorem call_absA : CallR X (.builtin "abs") rAbsA := call_abs
theorem call_strIA : CallR X (.type "str") rStrIA := call_str_int
end
section
variable {G : Gb} {C : Cf} {Hi Hi' H H' : Hp} {σ : St} {Γ : Ev} {W : WX}
theorem sem_len : SemN G (rLenA G.K) (o1 oLen) := by
  refine semN_1 ?_
  intro C Hi σ H Γ x a k Q c ha h q
  unfold oLen at h
  split at h
  · obtain ⟨p, xs, rfl, s1, r1⟩ := ha.list c.imm
    refine .inl ⟨_, xs.length, rfl, .inl ⟨xs, SqL.of s1, rfl⟩, ?_⟩
    rw [r1.length]
    exact q _ _ H Hi (Ext.refl _) (out_int c _) h
  · obtain ⟨p, xs, rfl, s1, r1⟩ := ha.tuple c.imm
    refine .inl ⟨_, xs.length, rfl, .inr ⟨xs, SqT.of s1, rfl⟩, ?_⟩
    rw [r1.length]
    exact q _ _ H Hi (Ext.refl _) (out_int c _) h
  · rename_i z
    have e := ha.str
    subst e
    exact .inl ⟨_, z.length, rfl, ⟨h.1, rfl⟩, q _ _ H Hi (Ext.refl _) (out_int c _) h.2⟩
  · obtain ⟨p, kvs, rfl, s1, r1⟩ := ha.dict c.imm
    refine .inr ⟨p, kvs, rfl, s1, ?_⟩
    rw [r1.length]
    exact q _ _ H Hi (Ext.refl _) (out_int c _) h
  · exact h.elim

def tyN : D → String
  | .none => "NoneType"
  | .bool _ => "bool"
  | .int _ => "int"
  | .str _ => "str"
  | .list _ => "list"
  | .tuple _ => "tuple"
  | .dict _ => "dict"
def tyNs : List String := ["NoneType", "bool", "int", "str", "list", "tuple", "dict"]
theorem tyN_mem (d : D) : tyN d ∈ tyNs := by cases d <;> simp [tyN, tyNs]
def isT (a T : String) : Bool := decide (a = T) || (decide (T = "int") && decide (a = "bool"))
theorem ty_x {K : Fg} {x : V} {d : D} (h : Rep K H x d) : TyX K H x (.type (tyN d)) := by
  cases h with
  | non => exact .base .non
  | bl b => exact .base (.bl b)
  | int i => exact .base (.int i)
  | str z => exact .base (.str z)
  | lst h _ => exact .base (.lst h)
  | tup h _ => exact .base (.tup h)
  | dct h _ =>
    rcases h with h | ⟨o, h⟩
    · exact .base (.dK h)
    · exact .fDict h
def KitOk (T : String) : Prop := ∀ a ∈ tyNs, kitB a T = some (isT a T)
theorem kit_bool : KitOk "bool" := by unfold KitOk tyNs; decide +kernel
theorem kit_str : KitOk "str" := by unfold KitOk tyNs; decide +kernel
theorem kit_list : KitOk "list" := by unfold KitOk tyNs; decide +kernel
theorem kit_tuple : KitOk "tuple" := by unfold KitOk tyNs; decide +kernel
def wIsi (T : String) (w : WE) : WE := fun Γ Q X => w Γ (fun r Γ1 => rdW r Γ1 fun d => Q (.sh (.bool (isT (tyN d) T))) Γ1) X
theorem sim_isi {t : TE} {w : WE} {T : String} (hT : KitOk T) (h : SimE G W t w) : SimE G W (tCB (rIsi G.K) (tCons t (tCons (tC (.ty T)) tNil))) (wIsi T w) := by
  intro C Hi σ H Γ Q Qd Xd c hw hQ hX
  refine h C Hi σ H Γ _ _ Xd c hw (fun v r H1 Hi1 Γ1 e1 o1 q => ?_) hX
  obtain ⟨Hi2, e2, c2, h2⟩ := o1.hold
  obtain ⟨d, b1, q⟩ := h2.read c2 q
  exact ⟨v, .ty T, _, _, _, rfl, .ty T, ty_x (b1.rep c2.imm), kit_ty (hT _ (tyN_mem d)), hQ _ _ H1 Hi2 Γ1 (e1.trans e2) (out_bl c2 _) q⟩
def wIsi2 (T U : String) (w : WE) : WE := fun Γ Q X => w Γ (fun r Γ1 => rdW r Γ1 fun d => Q (.sh (.bool (isT (tyN d) T || isT (tyN d) U))) Γ1) X
theorem reps_bools {K : Fg} : ∀ {bs : List Bool} {xs : List V}, Reps K Hi xs (bs.map .bool) → xs = bs.map .bl
  | [], _, h => by cases h; rfl
  | b :: bs, _, h => by
    cases h with
    | cons h r => cases h; rw [reps_bools r]; rfl
def oAll : Op1 := fun d k => isL d fun l => ∃ bs : List Bool, l = bs.map .bool ∧ k (.sh (.bool (bs.all id)))
theorem sem_all : SemN G (rAll G.K) (o1 oAll) := by
  refine semN_1 ?_
  intro C Hi σ H Γ x a k Q c ha h q
  obtain ⟨l, rfl, bs, rfl, h1⟩ := isL_inv h
  obtain ⟨p, xs, rfl, s1, r1⟩ := ha.list c.imm
  exact ⟨p, bs, rfl, SqL.of (by rw [s1, reps_bools r1]), q _ _ H Hi (Ext.refl _) (out_bl c _) h1⟩
def oInt : Op1 := fun d k => match d with
  | .int i => k (.sh (.int i))
  | .bool b => k (.sh (.int (if b then 1 else 0)))
  | _ => False
theorem sem_int : SemN G rIntA (o1 oInt) := by
  refine semN_1 ?_
  intro C Hi σ H Γ x a k Q c ha h q
  unfold oInt at h
  split at h
  · exact .inl ⟨_, by rw [ha.int], q _ _ H Hi (Ext.refl _) (out_int c _) h⟩
  · exact .inr ⟨_, by rw [ha.bl], q _ _ H Hi (Ext.refl _) (out_int c _) h⟩
  · exact h.elim
def oMax : Op2 := fun a b k => isI a fun i => isI b fun j => k (.sh (.int (if j > i then j else i)))
def oMin : Op2 := fun a b k => isI a fun i => isI b fun j => k (.sh (.int (if j < i then j else i)))
theorem sem_max : SemN G rMax2A (o2 oMax) := by
  refine semN_2 ?_
  intro C Hi σ H Γ x y a b k Q c ha hb h q
  obtain ⟨i, rfl, h1⟩ := isI_inv h
  obtain ⟨j, rfl, h2⟩ := isI_inv h1
  exact ⟨i, j, by rw [ha.int, hb.int], q _ _ H Hi (Ext.refl _) (out_int c _) h2⟩
theorem sem_min : SemN G rMin2A (o2 oMin) := by
  refine semN_2 ?_
  intro C Hi σ H Γ x y a b k Q c ha hb h q
  obtain ⟨i, rfl, h1⟩ := isI_inv h
  obtain ⟨j, rfl, h2⟩ := isI_inv h1
  exact ⟨i, j, by rw [ha.int, hb.int], q _ _ H Hi (Ext.refl _) (out_int c _) h2⟩
def oAbs : Op1 := fun d k => isI d fun i => k (.sh (.int (if i < 0 then -i else i)))
theorem sem_abs : SemN G rAbsA (o1 oAbs) := by
  refine semN_1 ?_
  intro C Hi σ H Γ x a k Q c ha h q
  obtain ⟨i, rfl, h1⟩ := isI_inv h
  exact ⟨i, by rw [ha.int], q _ _ H Hi (Ext.refl _) (out_int c _) h1⟩
def oStrI : Op1 := fun d k => isI d fun i => i.natAbs.log2 < 1920 ∧ k (.sh (.str (toString i)))
theorem sem_strI : SemN G rStrIA (o1 oStrI) := by
  refine semN_1 ?_
  intro C Hi σ H Γ x a k Q c ha h q
  obtain ⟨i, rfl, h1⟩ := isI_inv h
  exact ⟨i, by rw [ha.int], h1.1, q _ _ H Hi (Ext.refl _) (out_str c _) h1.2⟩
def isD (d : D) (k : List (D × D) → Prop) : Prop := match d with
  | .dict ps => k ps
  | _ => False
theorem isD_inv {d : D} {k : List (D × D) → Prop} (h : isD d k) : ∃ ps, d = .dict ps ∧ k ps := by
  unfold isD at h; split at h
  · exact ⟨_, rfl, h⟩
  · exact h.elim
theorem Rel.write {i : Nat} {d d' : D} {o : HO} {p : Addr} (c : Rel G C Hi σ H Γ) (h : Γ[i]? = some (.ow d)) (hp : σ[i]? = some (some (.ref p))) (ow : Own G.K Hi (upd H p o) p d') :
    Rel G C Hi σ (upd H p o) (Γ.set i (.ow d')) := by
  obtain ⟨fp, c⟩ := c
  obtain ⟨x, hx, p', hf, e, w, h0⟩ := c.sl i _ h
  rw [e, hp] at hx
  have ep : p' = p := by injection hx with h1; injection h1 with h1; injection h1 with h1; exact h1.symm
  subst ep
  have hi : i < Γ.length := (List.getElem?_eq_some_iff.mp h).1
  have hin : Hi p' = none := c.av i p' hi (by rw [hf]; simp)
  have hs : σ.set i (some (.ref p')) = σ := by
    obtain ⟨hl, e1⟩ := List.getElem?_eq_some_iff.mp hp
    rw [← e1]; exact List.set_getElem_self hl
  have st := c.step (H' := upd H p' o) (Hi' := Hi) (x := some (.ref p')) (l := [p']) (s := .ow d') hi (Ext.refl _)
    (fun a u hu hn => by rw [upd_ne (fun z => hn (by rw [hf, z]; simp))]; exact hu)
    (fun a ha => by
      rw [hf] at ha
      have : a = p' := by simpa using ha
      rw [this, upd_same]; simp)
    (fun a u hu => by
      have : a ≠ p' := fun z => by rw [z, hin] at hu; cases hu
      rw [upd_ne this]; exact c.imm a u hu)
    (fun _ _ z => .inl z) ⟨p', rfl, rfl, ow, h0⟩
    (fun a ha => by
      have : a = p' := by simpa using ha
      subst this
      exact ⟨hin, fun j hj hne hm => hne (c.dj j i a hj hi hm (by rw [hf]; simp))⟩)
    (fun j a hj hne ha => c.av j a hj ha)
  rw [hs] at st
  exact ⟨_, st⟩
theorem Rel.writeIo {i : Nat} {d d' : D} {o : HO} {p : Addr} (c : Rel G C Hi σ H Γ) (h : Γ[i]? = some (.io d)) (hp : σ[i]? = some (some (.ref p))) (ow : Own G.K Hi (upd H p o) p d') :
    Rel G C Hi σ (upd H p o) (Γ.set i (.io d')) := by
  obtain ⟨fp, c⟩ := c
  obtain ⟨x, hx, p', hf, e, w, h0⟩ := c.sl i _ h
  rw [e, hp] at hx
  have ep : p' = p := by injection hx with h1; injection h1 with h1; injection h1 with h1; exact h1.symm
  subst ep
  have hi : i < Γ.length := (List.getElem?_eq_some_iff.mp h).1
  have hin : Hi p' = none := c.av i p' hi (by rw [hf]; simp)
  have hs : σ.set i (some (.ref p')) = σ := by
    obtain ⟨hl, e1⟩ := List.getElem?_eq_some_iff.mp hp
    rw [← e1]; exact List.set_getElem_self hl
  have st := c.step (H' := upd H p' o) (Hi' := Hi) (x := some (.ref p')) (l := [p']) (s := .io d') hi (Ext.refl _)
    (fun a u hu hn => by rw [upd_ne (fun z => hn (by rw [hf, z]; simp))]; exact hu)
    (fun a ha => by
      rw [hf] at ha
      have : a = p' := by simpa using ha
      rw [this, upd_same]; simp)
    (fun a u hu => by
      have : a ≠ p' := fun z => by rw [z, hin] at hu; cases hu
      rw [upd_ne this]; exact c.imm a u hu)
    (fun _ _ z => .inl z) ⟨p', rfl, rfl, ow, h0⟩
    (fun a ha => by
      have : a = p' := by simpa using ha
      subst this
      exact ⟨hin, fun j hj hne hm => hne (c.dj j i a hj hi hm (by rw [hf]; simp))⟩)
    (fun j a hj hne ha => c.av j a hj ha)
  rw [hs] at st
  exact ⟨_, st⟩
def owW (i : Nat) (Γ : Ev) (k : D → (D → Ev) → Prop) : Prop := match Γ[i]? with
  | some (.ow d) => k d fun d' => Γ.set i (.ow d')
  | some (.io d) => k d fun d' => Γ.set i (.io d')
  | _ => False
theorem Rel.owned {i : Nat} {k : D → (D → Ev) → Prop} (c : Rel G C Hi σ H Γ) (h : owW i Γ k) : ∃ d p f, σ[i]? = some (some (.ref p)) ∧ Own G.K Hi H p d ∧ k d f ∧
    ∀ d' o, Own G.K Hi (upd H p o) p d' → Rel G C Hi σ (upd H p o) (f d') := by
  unfold owW at h
  split at h
  · rename_i d e
    obtain ⟨p, h1, h2⟩ := c.at_ow e
    exact ⟨d, p, _, h1, h2, h, fun d' o ow => c.write e h1 ow⟩
  · rename_i d e
    obtain ⟨p, h1, h2⟩ := c.at_io e
    exact ⟨d, p, _, h1, h2, h, fun d' o ow => c.writeIo e h1 ow⟩
  · exact h.elim
abbrev OpM := List D → List D → (List D → D → Prop) → Prop
def SemM (G : Gb) (r : V → List V → Hp → VK → Prop) (f : OpM) : Prop := ∀ {Hi H : Hp} {p : Addr} {vs xs : List V} {l ds : List D} {k : List D → D → Prop} {Q : VK}, H p = some (.lst vs) → Reps G.K Hi vs l → Reps G.K Hi xs ds → f l ds k →
  (∀ v d vs' l', Reps G.K Hi vs' l' → Rep G.K Hi v d → k l' d → Q v (upd H p (.lst vs'))) → r (.ref p) xs H Q
def wMut (i : Nat) (f : OpM) (wa : WA) : WE := fun Γ Q X => owW i Γ fun d _ => isL d fun _ => wa Γ (fun rs Γ1 => frAll rs Γ1 fun ds Γ2 => owW i Γ2 fun d f' => isL d fun l => f l ds fun l' r => Q (.sh r) (f' (.list l'))) X
theorem sim_mut {r : V → List V → Hp → VK → Prop} {f : OpM} {ta : TA} {wa : WA} (i : Nat) (hr : SemM G r f) (ha : SimA G W ta wa) : SimE G W (tBM G.K "list" r (tVar i) ta) (wMut i f wa) := by
  intro C Hi σ H Γ Q Qd Xd c hw hQ hX
  obtain ⟨d0, p, _, hp, ow0, hw, _⟩ := c.owned hw
  obtain ⟨l0, rfl, hw⟩ := isL_inv hw
  cases ow0 with
  | lst hl0 _ =>
    refine ⟨.ref p, hp, .inl ⟨rfl, _, SqL.of hl0⟩, ha C Hi σ H Γ _ _ Xd c hw (fun vs rs H1 Hi1 Γ1 e1 c1 h1 q1 => ?_) hX⟩
    obtain ⟨ds, Hi2, Γ2, e2, c2, r2, q2⟩ := h1.share (Ext.refl _) c1 q1
    obtain ⟨d, p', f', hp', ow, q3, put⟩ := c2.owned q2
    rw [hp] at hp'; cases hp'
    obtain ⟨l, rfl, q3⟩ := isL_inv q3
    cases ow with
    | lst hl rl =>
      refine hr hl rl r2 q3 fun v d vs' l' r' rv q4 => hQ v (.sh d) _ Hi2 _ (e1.trans e2) ⟨put _ _ (.lst upd_same r'), rv⟩ q4
def wMut0 (i : Nat) (f : OpM) : WE := fun Γ Q X => owW i Γ fun d f' => isL d fun l => f l [] fun l' r => Q (.sh r) (f' (.list l'))
def fAppend : OpM := fun l ds k => match ds with
  | [x] => l.length < sizeLine ∧ k (l ++ [x]) .none
  | _ => False
theorem sem_append : SemM G rAppend fAppend := by
  intro Hi H p vs xs l ds k Q h r ra hw q
  cases ra with
  | nil => exact hw.elim
  | cons r1 rr =>
    cases rr with
    | nil => exact ⟨p, vs, _, rfl, rfl, h, by rw [r.length]; exact hw.1, q _ _ _ _ (r.append (.one r1)) .non hw.2⟩
    | cons _ _ => exact hw.elim
end
end VL

set_option Elab.async false
set_option linter.all false
set_option maxRecDepth 100000
namespace VL
open PySem L2

section
variable {G : Gb} {C : Cf} {Hi Hi' H H' : Hp} {σ : St} {Γ : Ev} {W : WX}
def wDict0 : WE := fun Γ Q _ => Q (.ow (.dict [])) Γ
theorem sim_dict0 : SimE G W tDNewK wDict0 := fun C Hi σ H Γ Q Qd Xd c hw hQ hX p hp => hQ _ _ _ Hi Γ (Ext.refl _) (Out.new c hp (.dct upd_same .nil)) hw
def wDGet1 (wd wk : WE) : WE := fun Γ Q X => wd Γ (fun r Γ1 => rdW r Γ1 fun d => isD d fun _ => wk Γ1 (fun rk Γ2 => rdW r Γ2 fun d => isD d fun ps => rdW rk Γ2 fun key => isK key (Q (.sh ((dget ps key).getD .none)) Γ2)) X) X
theorem RepKV.getD {K : Fg} {kvs : List (Key × V)} {ps : List (D × D)} {k : Key} {v : V} {d : D} (r : RepKV K Hi kvs ps) (h : Rep K Hi v d) : Rep K Hi ((valV kvs k).getD v) ((dget ps (kD k)).getD d) := by
  cases e : dget ps (kD k) with
  | none => rw [r.none.mp e]; exact h
  | some d' => obtain ⟨v', h1, h2⟩ := r.get e; rw [h1]; exact h2
def wDGet2 (wd wk wx : WE) : WE := fun Γ Q X => wd Γ (fun r Γ1 => rdW r Γ1 fun d => isD d fun _ => wk Γ1 (fun rk Γ2 => wx Γ2 (fun rx Γ3 => frW rx Γ3 fun dx Γ4 =>
  rdW r Γ4 fun d => isD d fun ps => rdW rk Γ4 fun key => isK key (Q (.sh ((dget ps key).getD dx)) Γ4)) X) X) X
def wDPut (i : Nat) (wk wv : WE) : WS := fun Γ D X => wv Γ (fun rv Γ1 => owW i Γ1 fun _ _ => wk Γ1 (fun rk Γ2 => frW rv Γ2 fun dv Γ3 => rdW rk Γ3 fun key => isK key (owW i Γ3 fun d f => isD d fun ps => ps.length < sizeLine ∧ D.nx (f (.dict (dput ps key dv))))) X) X
theorem sim_dput {ty tv : TE} {wk wv : WE} (i : Nat) (hk : SimE G W ty wk) (hv : SimE G W tv wv) : SimS G W (sDPut (tVar i) ty tv) (wDPut i wk wv) := by
  intro C Hi σ H Γ Dn Dd Xd c hw h1 _ _ _ h5
  refine hv C Hi σ H Γ _ _ Xd c hw (fun v1 r1 H1 Hi1 Γ1 e1 o1 q1 => ?_) fun x c d => h5 x c d σ
  obtain ⟨Hi2, e2, c2, h2⟩ := o1.hold
  have f2 := e1.trans e2
  obtain ⟨_, p, _, hp, _, q1, _⟩ := c2.owned q1
  refine ⟨_, hp, hk C Hi2 σ H1 Γ1 _ _ Xd c2 q1 (fun v3 r3 H3 Hi3 Γ3 e3 o3 q3 => ?_) fun x c d H' Hi' Γ' e' => h5 x c d σ H' Hi' Γ' (f2.trans e')⟩
  obtain ⟨Hi4, e4, c4, h4⟩ := o3.hold
  obtain ⟨dv, Hi5, Γ5, e5, c5, rv, q5⟩ := (h2.mono (e3.trans e4)).share c4 q3
  obtain ⟨dk, bk, q6⟩ := (h4.mono e5).read c5 q5
  obtain ⟨⟨k, rfl⟩, q6'⟩ := isK_inv q6
  obtain ⟨d, p', f', hp', ow, q7, put⟩ := c5.owned q6'
  rw [hp] at hp'; cases hp'
  obtain ⟨ps, rfl, hl, q8⟩ := isD_inv q7
  cases ow with
  | dct hd rd =>
    refine ⟨p, _, rfl, by rw [bk.key]; exact DPut.k hd (by rw [rd.length]; exact hl), ?_⟩
    exact h1 σ _ Hi5 _ (((f2.trans e3).trans e4).trans e5) (put _ _ (.dct upd_same (rd.put rv))) q8
def wLPut (i : Nat) (wk wv : WE) : WS := fun Γ D X => wv Γ (fun rv Γ1 => owW i Γ1 fun _ _ => wk Γ1 (fun rk Γ2 => frW rv Γ2 fun dv Γ3 => rdW rk Γ3 fun key => isI key fun n => owW i Γ3 fun d f => isL d fun l =>
  match ixN l.length n with
  | some j => D.nx (f (.list (l.set j dv)))
  | none => False) X) X
theorem sim_lput {ty tv : TE} {wk wv : WE} (i : Nat) (hk : SimE G W ty wk) (hv : SimE G W tv wv) : SimS G W (tAsg tv (gSub (tVar i) ty rSetL)) (wLPut i wk wv) := by
  intro C Hi σ H Γ Dn Dd Xd c hw h1 _ _ _ h5
  refine hv C Hi σ H Γ _ _ Xd c hw (fun v1 r1 H1 Hi1 Γ1 e1 o1 q1 => ?_) fun x c d => h5 x c d σ
  obtain ⟨Hi2, e2, c2, h2⟩ := o1.hold
  have f2 := e1.trans e2
  obtain ⟨_, p, _, hp, _, q1, _⟩ := c2.owned q1
  refine ⟨_, hp, hk C Hi2 σ H1 Γ1 _ _ Xd c2 q1 (fun v3 r3 H3 Hi3 Γ3 e3 o3 q3 => ?_) fun x c d H' Hi' Γ' e' => h5 x c d σ H' Hi' Γ' (f2.trans e')⟩
  obtain ⟨Hi4, e4, c4, h4⟩ := o3.hold
  obtain ⟨dv, Hi5, Γ5, e5, c5, rv, q5⟩ := (h2.mono (e3.trans e4)).share c4 q3
  obtain ⟨dk, bk, q6⟩ := (h4.mono e5).read c5 q5
  obtain ⟨n, rfl, q6'⟩ := isI_inv q6
  obtain ⟨d, p', f', hp', ow, q7, put⟩ := c5.owned q6'
  rw [hp] at hp'; cases hp'
  obtain ⟨l, rfl, q8⟩ := isL_inv q7
  cases ow with
  | lst hl rl =>
    split at q8
    · rename_i j ej
      refine ⟨p, _, n, j, rfl, bk.int, hl, by rw [rl.length]; exact ej, ?_⟩
      exact h1 σ _ Hi5 _ (((f2.trans e3).trans e4).trans e5) (put _ _ (.lst upd_same (rl.set rv j))) q8
    · exact q8.elim
def wExt (i : Nat) (w : WE) : WE := fun Γ Q X => owW i Γ fun d _ => isL d fun _ => w Γ (fun r Γ1 => frW r Γ1 fun d Γ2 => isL d fun ys => owW i Γ2 fun d f => isL d fun l => l.length + ys.length ≤ sizeLine ∧ Q (.sh .none) (f (.list (l ++ ys)))) X
def slW (r : R) (Γ : Ev) (k : Sl → Ev → Prop) : Prop := match r with
  | .sh d => k (.sh d) Γ
  | .ow d => k (.ow d) Γ
  | .vr i => frW (.vr i) Γ fun d Γ1 => k (.sh d) Γ1
  | .op t d => 10 ≤ t ∧ k (.op t d) Γ
abbrev WSl := Ev → (List Sl → Ev → Prop) → XW → Prop
def wsNil : WSl := fun Γ Q _ => Q [] Γ
def wsCons (w : WE) (ws : WSl) : WSl := fun Γ Q X => w Γ (fun r Γ1 => slW r Γ1 fun s Γ2 => ws Γ2 (fun ss Γ3 => Q (s :: ss) Γ3) X) X
theorem Out.slot {v : V} {r : R} {k : Sl → Ev → Prop} (o : Out G C Hi σ H Γ v r) (q : slW r Γ k) :
    ∃ Hi' Γ' s, Ext Hi Hi' ∧ Γ'.length = σ.length ∧ Rel G C Hi' (σ ++ [some v]) H (Γ' ++ [s]) ∧ ((∃ d, s = .sh d) ∨ (∃ d, s = .ow d) ∨ ∃ t d, 10 ≤ t ∧ s = .op t d) ∧ k s Γ' := by
  cases r with
  | sh d => exact ⟨Hi, Γ, .sh d, Ext.refl _, o.1.len, o.1.push_sh o.2, .inl ⟨d, rfl⟩, q⟩
  | ow d => exact ⟨Hi, Γ, .ow d, Ext.refl _, o.1, o.2, .inr (.inl ⟨d, rfl⟩), q⟩
  | op t d => exact ⟨Hi, Γ, .op t d, Ext.refl _, o.1, o.2, .inr (.inr ⟨t, d, q.1, rfl⟩), q.2⟩
  | vr i =>
    obtain ⟨d, Hi', Γ', e, c, r, q⟩ := o.share (k := fun d Γ1 => k (.sh d) Γ1) q
    exact ⟨Hi', Γ', .sh d, e, c.len, c.push_sh r, .inl ⟨d, rfl⟩, q⟩
def SimSl (G : Gb) (W : WX) (t : TA) (w : WSl) : Prop := ∀ (C : Cf) (Hi : Hp) (σ : St) (H : Hp) (Γ : Ev) (Q : List V → Hp → Prop) (Qd : List Sl → Ev → Prop) (Xd : XW), Rel G C Hi σ H Γ → w Γ Qd Xd →
  (∀ vs ss H' Hi' Γ', Ext Hi Hi' → Γ'.length = σ.length → Rel G C Hi' (σ ++ vs.reverse.map some) H' (Γ' ++ ss.reverse) → Plain ss → vs.length = ss.length → Qd ss Γ' → Q vs H') →
  (∀ x c d H' Hi' Γ', Ext Hi Hi' → Rel G C Hi' σ H' Γ' → G.xr x c d Hi' → Xd x Γ' → W c d σ H') → t σ H Q
theorem sims_nil : SimSl G W tNil wsNil := fun C Hi σ H Γ Q Qd Xd c hw hQ hX => hQ [] [] H Hi Γ (Ext.refl _) c.len (by simpa using c) (fun s h => nomatch h) rfl hw
theorem sims_cons {te : TE} {ta : TA} {we : WE} {ws : WSl} (he : SimE G W te we) (ha : SimSl G W ta ws) : SimSl G W (tCons te ta) (wsCons we ws) := by
  intro C Hi σ H Γ Q Qd Xd c hw hQ hX
  refine he C Hi σ H Γ _ _ Xd c hw (fun v1 r1 H1 Hi1 Γ1 e1 o1 q1 => ?_) hX
  obtain ⟨Hi2, Γ2, s, e2, hl, c2, pl, q2⟩ := o1.slot q1
  have f2 := e1.trans e2
  obtain ⟨fp, c2⟩ := c2
  have pl1 : Plain [s] := fun s' h => by
    have : s' = s := by simpa using h
    rw [this]; exact pl
  refine ha _ Hi2 σ H1 Γ2 _ _ Xd ⟨_, c2.aside hl⟩ q2 (fun vs ss H3 Hi3 Γ3 e3 hl3 c3 pl3 hle q3 => ?_) fun x c d H' Hi' Γ' e' c' => ?_
  · obtain ⟨fp3, c3⟩ := c3
    have c4 := c2.back hl pl1 e3 c3
    refine hQ (v1 :: vs) (s :: ss) H3 Hi3 Γ3 (f2.trans e3) hl3 ?_ ?_ (by simp [hle]) q3
    · rw [List.reverse_cons, List.reverse_cons, List.map_append, ← List.append_assoc, ← List.append_assoc]
      exact c4
    · intro s' h
      rcases List.mem_cons.mp h with rfl | h
      · exact pl
      · exact pl3 s' h
  · obtain ⟨fp', c'⟩ := c'
    have c4 := c2.back hl pl1 e' c'
    exact hX x c d H' Hi' Γ' (f2.trans e') (c4.trunc c'.len)
theorem Rel.moves {n : Nat} : ∀ (is : List Nat) (vs : List V) (ss : List Sl) {σ : St} {Γ : Ev}, is.length = vs.length → vs.length = ss.length → Γ.length = σ.length → (∀ i ∈ is, i < Γ.length) →
    Rel G C Hi (σ ++ vs.reverse.map some) H (Γ ++ ss.reverse) → Rel G C Hi ((is.zip vs).foldl (fun σ p => σ.set p.1 (some p.2)) σ) H ((is.zip ss).foldl (fun Γ p => Γ.set p.1 p.2) Γ)
  | [], [], [], σ, Γ, _, _, _, _, c => by simpa using c
  | i :: is, v :: vs, s :: ss, σ, Γ, h1, h2, hl, hi, c => by
    rw [List.reverse_cons, List.reverse_cons, List.map_append, ← List.append_assoc, ← List.append_assoc] at c
    have h2' : vs.length = ss.length := by simpa using h2
    have hil : i < Γ.length := hi i List.mem_cons_self
    have c1 := Rel.move (i := i) (x := some v) c (by simp; omega) (by simp; omega)
    rw [List.set_append_left i _ (by omega), List.set_append_left i _ hil] at c1
    exact Rel.moves (n := n) is vs ss (by simpa using h1) h2' (by simpa using hl) (fun j hj => by rw [List.length_set]; exact hi j (List.mem_cons_of_mem _ hj)) c1
  | [], _ :: _, _, _, _, h1, _, _, _, _ => by simp at h1
  | _ :: _, [], _, _, _, h1, _, _, _, _ => by simp at h1
  | [], [], _ :: _, _, _, _, h2, _, _, _ => by simp at h2
  | _ :: _, _ :: _, [], _, _, _, h2, _, _, _ => by simp at h2
theorem two_of {α : Type} : ∀ {l : List α}, l.length = 2 → ∃ a b, l = [a, b]
  | [a, b], _ => ⟨a, b, rfl⟩
  | [], h => by simp at h
  | [_], h => by simp at h
  | _ :: _ :: _ :: _, h => by simp at h
theorem three_of {α : Type} : ∀ {l : List α}, l.length = 3 → ∃ a b c, l = [a, b, c]
  | [a, b, c], _ => ⟨a, b, c, rfl⟩
  | [], h => by simp at h
  | [_], h => by simp at h
  | [_, _], h => by simp at h
  | _ :: _ :: _ :: _ :: _, h => by simp at h
def wPar (is : List Nat) (ws : WSl) : WS := fun Γ D X => ws Γ (fun ss Γ1 => ss.length = is.length ∧ (∀ i ∈ is, i < Γ1.length) ∧ D.nx ((is.zip ss).foldl (fun Γ p => Γ.set p.1 p.2) Γ1)) X
theorem sim_par {i j : Nat} {ta : TA} {ws : WSl} (h : SimSl G W ta ws) : SimS G W (tPar i j ta) (wPar [i, j] ws) := by
  intro C Hi σ H Γ Dn Dd Xd c hw h1 _ _ _ h5
  refine h C Hi σ H Γ _ _ Xd c hw (fun vs ss H1 Hi1 Γ1 e1 hl c1 pl hle ⟨q1, q2, q3⟩ => ?_) fun x c d => h5 x c d σ
  have m := Rel.moves (n := 0) [i, j] vs ss (by rw [hle, q1]) hle hl q2 c1
  obtain ⟨v1, v2, rfl⟩ := two_of (show vs.length = 2 by rw [hle, q1]; rfl)
  obtain ⟨s1, s2, rfl⟩ := two_of (show ss.length = 2 by rw [q1]; rfl)
  exact ⟨v1, v2, rfl, h1 _ H1 Hi1 _ e1 m q3⟩
theorem sim_par3 {i j l : Nat} {ta : TA} {ws : WSl} (h : SimSl G W ta ws) : SimS G W (tPar3 i j l ta) (wPar [i, j, l] ws) := by
  intro C Hi σ H Γ Dn Dd Xd c hw h1 _ _ _ h5
  refine h C Hi σ H Γ _ _ Xd c hw (fun vs ss H1 Hi1 Γ1 e1 hl c1 pl hle ⟨q1, q2, q3⟩ => ?_) fun x c d => h5 x c d σ
  have m := Rel.moves (n := 0) [i, j, l] vs ss (by rw [hle, q1]) hle hl q2 c1
  obtain ⟨v1, v2, v3, rfl⟩ := three_of (show vs.length = 3 by rw [hle, q1]; rfl)
  obtain ⟨s1, s2, s3, rfl⟩ := three_of (show ss.length = 3 by rw [q1]; rfl)
  exact ⟨v1, v2, v3, rfl, h1 _ H1 Hi1 _ e1 m q3⟩
def gNames : List Nat → TGs
  | [] => gNil
  | i :: is => gCons (gName i) (gNames is)
theorem gNames_run {H : Hp} {Q : St → Hp → Prop} : ∀ (is : List Nat) (vs : List V) (σ : St), is.length = vs.length → Q ((is.zip vs).foldl (fun σ p => σ.set p.1 (some p.2)) σ) H → gNames is vs σ H Q
  | [], [], σ, _, h => ⟨rfl, h⟩
  | i :: is, v :: vs, σ, hl, h => ⟨v, vs, rfl, gNames_run is vs _ (by simpa using hl) h⟩
  | [], _ :: _, _, hl, _ => by simp at hl
  | _ :: _, [], _, hl, _ => by simp at hl
theorem sim_parT {is : List Nat} {n : Nat} {ta : TA} {ws : WSl} (hn : is.length = n) (hs : n ≤ 1000) (h : SimSl G W ta ws) : SimS G W (tAsg (tTup ta) (gTup G.K n (gNames is))) (wPar is ws) := by
  intro C Hi σ H Γ Dn Dd Xd c hw h1 _ _ _ h5
  refine h C Hi σ H Γ _ _ Xd c hw (fun vs ss H1 Hi1 Γ1 e1 hl c1 pl hle ⟨q1, q2, q3⟩ => ?_) fun x c d => h5 x c d σ
  have hv : vs.length = n := by rw [hle, q1, hn]
  refine ⟨le_line (by rw [hv]; exact hs), fun p hp => ⟨p, vs, rfl, SqT.of upd_same, hv, ?_⟩⟩
  refine gNames_run is vs σ (by rw [hv, hn]) (h1 _ _ Hi1 _ e1 ?_ q3)
  have m := Rel.moves (n := 0) is vs ss (by rw [hle, q1]) hle hl q2 c1
  exact m.grow (Ext.new hp) (Ext.refl _) (m.imm.trans (Ext.new hp)) fun _ _ z => .inl z
end
end VL

set_option Elab.async false
set_option linter.all false
set_option maxRecDepth 100000
namespace VL
open PySem L2

section
variable {G : Gb} {C : Cf} {Hi Hi' Hi1 H H' H1 : Hp} {σ τ : St} {Γ Γ1 Γ2 Δ : Ev} {W : WX}
def wipeE (Γ : Ev) : List Nat → Ev
  | [] => Γ
  | v :: vs => (wipeE Γ vs).set v .no
def restE (Γ0 : Ev) : Ev → List Nat → Ev
  | Γ, [] => Γ
  | Γ, v :: vs => restE Γ0 (Γ.set v ((Γ0[v]?).getD .no)) vs
def okW (Γ : Ev) : List Nat → Prop
  | [] => True
  | v :: vs => (match Γ[v]? with
    | some .no => True
    | some (.sh _) => True
    | _ => False) ∧ okW Γ vs
theorem wipeE_length (Γ : Ev) : ∀ vs, (wipeE Γ vs).length = Γ.length
  | [] => rfl
  | v :: vs => by unfold wipeE; rw [List.length_set, wipeE_length Γ vs]
theorem restE_length (Γ0 : Ev) : ∀ (vs : List Nat) (Γ : Ev), (restE Γ0 Γ vs).length = Γ.length
  | [], _ => rfl
  | v :: vs, Γ => by unfold restE; rw [restE_length Γ0 vs, List.length_set]
theorem okW_lt : ∀ {vs : List Nat}, okW Γ vs → ∀ v ∈ vs, v < Γ.length ∧ ((Γ[v]? = some .no) ∨ ∃ d, Γ[v]? = some (.sh d))
  | [], _, v, h => nomatch h
  | w :: vs, ⟨h1, h2⟩, v, h => by
    rcases List.mem_cons.mp h with rfl | h
    · split at h1
      · rename_i e
        exact ⟨(List.getElem?_eq_some_iff.mp e).1, .inl e⟩
      · rename_i d e
        exact ⟨(List.getElem?_eq_some_iff.mp e).1, .inr ⟨d, e⟩⟩
      · exact h1.elim
    · exact okW_lt h2 v h
theorem wipe_get (σ : St) (j : Nat) : ∀ vs : List Nat, (wipe σ vs)[j]? = if j ∈ vs then (σ[j]?).map (fun _ => none) else σ[j]?
  | [] => by simp [wipe]
  | v :: vs => by
    unfold wipe
    by_cases hj : v = j
    · subst hj
      rw [List.getElem?_set_self', wipe_get σ v vs, if_pos List.mem_cons_self]
      split
      · cases σ[v]? <;> rfl
      · rfl
    · rw [List.getElem?_set_ne hj, wipe_get σ j vs]
      have : (j ∈ v :: vs) ↔ j ∈ vs := by
        rw [List.mem_cons]
        exact ⟨fun h => h.resolve_left fun e => hj e.symm, .inr⟩
      by_cases hm : j ∈ vs
      · rw [if_pos hm, if_pos (this.mpr hm)]
      · rw [if_neg hm, if_neg fun h => hm (this.mp h)]
theorem wipe_set {i : Nat} {x : Option V} {vs : List Nat} (h : i ∈ vs) : wipe (σ.set i x) vs = wipe σ vs := by
  apply List.ext_getElem?
  intro j
  rw [wipe_get, wipe_get]
  by_cases hj : j ∈ vs
  · rw [if_pos hj, if_pos hj]
    by_cases e : i = j
    · subst e
      rw [List.getElem?_set_self']
      cases σ[i]? <;> rfl
    · rw [List.getElem?_set_ne e]
  · rw [if_neg hj, if_neg hj, List.getElem?_set_ne (show i ≠ j from fun e => by subst e; exact hj h)]
theorem wipe_wipe (vs : List Nat) : wipe (wipe σ vs) vs = wipe σ vs := by
  apply List.ext_getElem?
  intro j
  rw [wipe_get, wipe_get]
  split
  · cases σ[j]? <;> rfl
  · rfl
theorem wipe_append : ∀ {vs : List Nat}, (∀ v ∈ vs, v < σ.length) → wipe (σ ++ τ) vs = wipe σ vs ++ τ
  | [], _ => rfl
  | v :: vs, h => by
    unfold wipe
    rw [wipe_append fun w hw => h w (List.mem_cons_of_mem _ hw), List.set_append_left _ _ (by rw [wipe_length]; exact h v List.mem_cons_self)]
theorem wipeE_append : ∀ {vs : List Nat}, (∀ v ∈ vs, v < Γ.length) → wipeE (Γ ++ Δ) vs = wipeE Γ vs ++ Δ
  | [], _ => rfl
  | v :: vs, h => by
    unfold wipeE
    rw [wipeE_append fun w hw => h w (List.mem_cons_of_mem _ hw), List.set_append_left _ _ (by rw [wipeE_length]; exact h v List.mem_cons_self)]
theorem Rel.setNo {i : Nat} {x : Option V} (c : Rel G C Hi σ H Γ) : Rel G C Hi (σ.set i x) H (Γ.set i .no) := by
  by_cases hi : i < Γ.length
  · exact c.put_no hi
  · rw [set_far hi, set_far (by rw [← c.len]; exact hi)]; exact c
theorem Rel.wipe (c : Rel G C Hi σ H Γ) : ∀ vs : List Nat, Rel G C Hi (L2.wipe σ vs) H (wipeE Γ vs)
  | [] => c
  | v :: vs => (c.wipe vs).setNo
theorem Rel.unwipe (c1 : Rel G C Hi1 σ H1 Γ1) (e : Ext Hi1 Hi) (hd : τ.length = Δ.length) : ∀ (vs : List Nat) {Γ2 : Ev}, okW Γ1 vs → vs.Nodup → Γ2.length = σ.length → Rel G C Hi (L2.wipe σ vs ++ τ) H (Γ2 ++ Δ) →
    Rel G C Hi (σ ++ τ) H (restE Γ1 Γ2 vs ++ Δ)
  | [], Γ2, _, _, _, c => c
  | v :: vs, Γ2, ok, nd, hl, c => by
    obtain ⟨hv, hs⟩ := okW_lt ok v List.mem_cons_self
    have hvs : v < σ.length := by rw [← c1.len]; exact hv
    obtain ⟨nd1, nd2⟩ := List.nodup_cons.mp nd
    have ew : ((L2.wipe σ (v :: vs)).set v σ[v]) = L2.wipe σ vs := by
      show (((L2.wipe σ vs).set v none).set v σ[v]) = L2.wipe σ vs
      rw [List.set_set]
      apply List.ext_getElem?
      intro j
      by_cases hj : v = j
      · subst hj
        rw [List.getElem?_set_self (by rw [wipe_length]; exact hvs), wipe_get, if_neg nd1, List.getElem?_eq_getElem hvs]
      · rw [List.getElem?_set_ne hj]
    have step : Rel G C Hi (((L2.wipe σ (v :: vs)) ++ τ).set v σ[v]) H ((Γ2 ++ Δ).set v ((Γ1[v]?).getD .no)) := by
      rcases hs with hs | ⟨d, hs⟩
      · rw [hs]
        exact c.setNo
      · rw [hs]
        obtain ⟨x, hx, rx⟩ := c1.at_sh hs
        rw [List.getElem?_eq_getElem hvs] at hx
        rw [Option.some.inj hx]
        exact c.setSh (rx.mono e)
    rw [List.set_append_left _ _ (by rw [wipe_length]; exact hvs), ew, List.set_append_left _ _ (by rw [hl]; exact hvs)] at step
    exact Rel.unwipe c1 e hd vs ok.2 nd2 (by rw [List.length_set]; exact hl) step

def SimGw (G : Gb) (g : TG) (w : WG) (vs : List Nat) : Prop := ∀ (C : Cf) (Hi : Hp) (σ : St) (H : Hp) (Γ : Ev) (v : V) (d : D) (Q : St → Hp → Prop) (Qd : Ev → Prop), Rel G C Hi σ H Γ → Rep G.K Hi v d → w d Γ Qd →
  (∀ σ' Γ', Rel G C Hi σ' H Γ' → L2.wipe σ' vs = L2.wipe σ vs → Qd Γ' → Q σ' H) → g v σ H Q
def SimGsw (G : Gb) (g : TGs) (w : WGs) (vs : List Nat) : Prop := ∀ (C : Cf) (Hi : Hp) (σ : St) (H : Hp) (Γ : Ev) (xs : List V) (ds : List D) (Q : St → Hp → Prop) (Qd : Ev → Prop), Rel G C Hi σ H Γ → Reps G.K Hi xs ds → w ds Γ Qd →
  (∀ σ' Γ', Rel G C Hi σ' H Γ' → L2.wipe σ' vs = L2.wipe σ vs → Qd Γ' → Q σ' H) → g xs σ H Q
theorem simgw_name (i : Nat) {vs : List Nat} (h : i ∈ vs) : SimGw G (gName i) (wgName i) vs := fun C Hi σ H Γ v d Q Qd c r hw q => q _ _ (c.setSh r) (wipe_set h) hw
theorem simgw_nil {vs : List Nat} : SimGsw G gNil wgNil vs := by
  intro C Hi σ H Γ xs ds Q Qd c r hw h
  cases r with
  | nil => exact ⟨rfl, h _ _ c rfl hw⟩
  | cons _ _ => exact hw.elim
theorem simgw_cons {vs : List Nat} {g : TG} {a : WG} {gs : TGs} {b : WGs} (ha : SimGw G g a vs) (hb : SimGsw G gs b vs) : SimGsw G (gCons g gs) (wgCons a b) vs := by
  intro C Hi σ H Γ xs ds Q Qd c r hw h
  cases r with
  | nil => exact hw.elim
  | cons r1 rr => exact ⟨_, _, rfl, ha C Hi σ H Γ _ _ _ _ c r1 hw fun σ' Γ' c' e' q => hb C Hi σ' H Γ' _ _ _ _ c' rr q fun σ2 Γ2 c2 e2 q2 => h σ2 Γ2 c2 (e2.trans e') q2⟩
theorem simgw_tup {vs : List Nat} {n : Nat} {gs : TGs} {b : WGs} (hb : SimGsw G gs b vs) : SimGw G (gTup G.K n gs) (wgTup n b) vs := by
  intro C Hi σ H Γ v d Q Qd c r hw h
  cases r with
  | tup s r =>
    obtain ⟨hl, hw⟩ := hw
    exact ⟨_, _, rfl, SqT.of (c.imm _ _ s), by rw [r.length]; exact hl, hb C Hi σ H Γ _ _ _ _ c r hw h⟩
  | _ => exact hw.elim

def noX : XW := fun _ _ => False
abbrev noW : WX := fun _ _ _ _ => False
def wYes : WT := fun Γ Q _ => Q true Γ
theorem sim_yes : SimT G W tYes wYes := fun C Hi σ H Γ Q Qd Xd c hw hQ hX => hQ true H Hi Γ (Ext.refl _) c hw
def lcW (vs : List Nat) (g : WG) (t : WT) (w : WE) (k : List D → Ev → Prop) : List PyData → List D → Ev → Prop
  | [], acc, Γ => k acc Γ
  | d :: ds, acc, Γ => g d Γ fun Γ1 => t Γ1 (fun b Γ2 => if b = true then w Γ2 (fun r Γ3 => frW r Γ3 fun e Γ4 => acc.length < sizeLine ∧ lcW vs g t w k ds (acc ++ [e]) (wipeE Γ4 vs)) noX
      else lcW vs g t w k ds acc (wipeE Γ2 vs)) noX
def wLc (vs : List Nat) (wi : WI) (g : WG) (t : WT) (w : WE) : WE := fun Γ Q X => wi Γ (fun ds Γ1 => okW Γ1 vs ∧ lcW vs g t w (fun acc Γ2 => Q (.ow (.list acc)) (restE Γ1 Γ2 vs)) ds [] (wipeE Γ1 vs)) X
theorem plain1 {d : D} : Plain [.ow d] := fun s h => by
  have : s = .ow d := by simpa using h
  exact .inr (.inl ⟨d, this⟩)
theorem lc_run {g : TG} {wg : WG} {tt : TT} {wt : WT} {te : TE} {we : WE} {vs : List Nat} (nd : vs.Nodup) (hg : SimGw G g wg vs) (ht : SimT G noW tt wt) (he : SimE G noW te we) {J : It} {ds : List D} {Q : VK} {Qd : R → Ev → Prop}
    (c1 : Rel G C Hi1 σ H1 Γ1) (it : Items G.K Hi1 J ds) (ok : okW Γ1 vs) (q : lcW vs wg wt we (fun acc Γ2 => Qd (.ow (.list acc)) (restE Γ1 Γ2 vs)) ds [] (wipeE Γ1 vs))
    (hQ : ∀ v r H' Hi' Γ', Ext Hi1 Hi' → Out G C Hi' σ H' Γ' v r → Qd r Γ' → Q v H') : tLc (fun σ H R => R J H) g tt te vs σ H1 Q := by
  intro Dp hD
  have hvl : ∀ v ∈ vs, v < σ.length := fun v hv => by rw [← c1.len]; exact (okW_lt ok v hv).1
  have c3 := (c1.wipe vs).alloc hD (d := .list []) (.lst upd_same .nil)
  refine ⟨fun i m H' => m = ds.length - i ∧ i ≤ ds.length ∧ ∃ Hi' Γ' acc, Ext Hi1 Hi' ∧ Γ'.length = σ.length ∧ Rel G C Hi' (L2.wipe σ vs ++ [some (.ref Dp)]) H' (Γ' ++ [.ow (.list acc)]) ∧
      lcW vs wg wt we (fun acc Γ2 => Qd (.ow (.list acc)) (restE Γ1 Γ2 vs)) (ds.drop i) acc Γ',
    ⟨ds.length, by simp, Nat.zero_le _, Hi1, _, [], Ext.refl _, by rw [wipeE_length]; exact c1.len, c3, q⟩, ?_⟩
  rintro i m H2 ⟨rfl, hil, Hi2, Γ2, acc, e2, hl2, c2, q2⟩
  have hl2' : Γ2.length = (L2.wipe σ vs).length := by rw [wipe_length]; exact hl2
  by_cases hlt : i < ds.length
  · have hd : ds.drop i = ds[i] :: ds.drop (i + 1) := List.drop_eq_getElem_cons hlt
    rw [hd] at q2
    refine .inr ⟨it.go Hi2 H2 i e2 c2.imm hlt, fun H' => ∃ Hi' Γ' acc, Ext Hi1 Hi' ∧ Γ'.length = σ.length ∧ Rel G C Hi' (L2.wipe σ vs ++ [some (.ref Dp)]) H' (Γ' ++ [.ow (.list acc)]) ∧
      lcW vs wg wt we (fun acc Γ2 => Qd (.ow (.list acc)) (restE Γ1 Γ2 vs)) (ds.drop (i + 1)) acc Γ', fun H' z => ⟨ds.length - (i + 1), by omega, rfl, hlt, z⟩, fun x H3 y => ?_⟩
    obtain ⟨Hi3, e3, k3, im3, ov3, r3⟩ := it.yld Hi2 H2 i x H3 ds[i] e2 c2.imm (List.getElem?_eq_getElem hlt) y
    obtain ⟨fp, c4⟩ := c2.grow k3 e3 im3 ov3
    have f3 := e2.trans e3
    refine hg _ Hi3 (L2.wipe σ vs) H3 Γ2 x _ _ _ ⟨_, c4.aside hl2'⟩ r3 q2 fun σ5 Γ5 c5 w5 q5 => ?_
    have w5' : L2.wipe σ5 vs = L2.wipe σ vs := w5.trans (wipe_wipe vs)
    have l5 : σ5.length = σ.length := by
      have := congrArg List.length w5'
      rw [wipe_length, wipe_length] at this
      exact this
    have hv5 : ∀ v ∈ vs, v < σ5.length := fun v hv => by rw [l5]; exact hvl v hv
    refine ⟨w5.trans (by rw [wipe_wipe]), ht _ Hi3 σ5 H3 Γ5 _ _ noX c5 q5 (fun b H6 Hi6 Γ6 e6 c6 q6 => ?_) fun _ _ _ _ _ _ _ _ _ z => z.elim⟩
    cases b with
    | false =>
      obtain ⟨fp6, c6⟩ := c6
      have c9 := (c4.back hl2' plain1 e6 c6).wipe vs
      rw [wipe_append hv5, wipeE_append (fun v hv => by rw [c6.len]; exact hv5 v hv), w5'] at c9
      exact ⟨Hi6, _, acc, f3.trans e6, by rw [wipeE_length, c6.len, l5], c9, q6⟩
    | true =>
      refine he _ Hi6 σ5 H6 Γ6 _ _ noX c6 q6 (fun v7 r7 H7 Hi7 Γ7 e7 o7 q7 => ?_) fun _ _ _ _ _ _ _ _ _ z => z.elim
      obtain ⟨d, Hi8, Γ8, e8, c8, r8, hz, q8⟩ := o7.share q7
      obtain ⟨fp8, c8⟩ := c8
      have f8 := (e6.trans e7).trans e8
      have c9 := c4.back hl2' plain1 f8 c8
      have hat : (Γ8 ++ [Sl.ow (.list acc)])[Γ8.length]? = some (.ow (.list acc)) := by simp
      obtain ⟨p, hp, ow⟩ := c9.at_ow hat
      have ep : p = Dp := by
        rw [c8.len] at hp
        simpa using hp.symm
      subst ep
      cases ow with
      | lst hl rl =>
        refine ⟨_, hl, by rw [rl.length]; exact hz, ?_⟩
        have c10 := c9.write hat hp (d' := .list (acc ++ [d])) (.lst upd_same (rl.append (.one r8)))
        have e10 : (Γ8 ++ [Sl.ow (.list acc)]).set Γ8.length (.ow (.list (acc ++ [d]))) = Γ8 ++ [.ow (.list (acc ++ [d]))] := by simp
        rw [e10] at c10
        have c11 := c10.wipe vs
        rw [wipe_append hv5, wipeE_append (fun v hv => by rw [c8.len]; exact hv5 v hv), w5'] at c11
        exact ⟨Hi8, _, acc ++ [d], f3.trans f8, by rw [wipeE_length, c8.len, l5], c11, q8⟩
  · have e : i = ds.length := by omega
    subst e
    rw [List.drop_length] at q2
    refine .inl ⟨it.stop Hi2 H2 _ e2 c2.imm (Nat.le_refl _), hQ (.ref Dp) (.ow (.list acc)) H2 Hi2 _ e2 ⟨by rw [restE_length]; exact hl2, ?_⟩ q2⟩
    exact Rel.unwipe c1 e2 rfl vs ok nd hl2 c2

theorem sim_lc {ti : TI} {wi : WI} {g : TG} {wg : WG} {tt : TT} {wt : WT} {te : TE} {we : WE} {vs : List Nat} (nd : vs.Nodup) (hi : SimI G W ti wi) (hg : SimGw G g wg vs) (ht : SimT G noW tt wt) (he : SimE G noW te we) :
    SimE G W (tLc ti g tt te vs) (wLc vs wi wg wt we) := by
  intro C Hi σ H Γ Q Qd Xd c hw hQ hX
  exact hi C Hi σ H Γ _ _ Xd c hw (fun J ds H1 Hi1 Γ1 e1 c1 it q => lc_run nd hg ht he c1 it q.1 q.2 fun v r H' Hi' Γ' e o q => hQ v r H' Hi' Γ' (e1.trans e) o q) hX

end
end VL

set_option Elab.async false
set_option linter.all false
set_option maxRecDepth 100000
namespace VL
open PySem L2

abbrev FS := Option Sl → List D → (R → Option Sl → Prop) → (Exn → Option Sl → Prop) → Prop

section
variable {G : Gb} {C : Cf} {Hi Hi' H H' : Hp} {σ : St} {Γ : Ev} {W : WX}
def IoOne (G : Gb) (Hi H : Hp) : Sl → Addr → List Addr → Prop
  | .io d, p, fp => fp = [p] ∧ Own G.K Hi H p d
  | .op t d, p, fp => t < 10 ∧ G.Op.ok t d Hi H p fp
  | _, _, _ => False
def keyS : Sl → Nat
  | .io _ => 100
  | .op t _ => t
  | _ => 200
def IoAt (G : Gb) (Hi H : Hp) : Option Sl → List V → List Addr → Prop
  | none, pre, fp => pre = [] ∧ fp = []
  | some (.io d), pre, fp => ∃ p, pre = [.ref p] ∧ fp = [p] ∧ Own G.K Hi H p d
  | some (.op t d), pre, fp => t < 10 ∧ ∃ p, pre = [.ref p] ∧ G.Op.ok t d Hi H p fp
  | some (.two a b), pre, fp => ∃ p1 p2 f1 f2, pre = [.ref p1, .ref p2] ∧ fp = f1 ++ f2 ∧ IoOne G Hi H a p1 f1 ∧ IoOne G Hi H b p2 f2 ∧ (∀ x ∈ f1, x ∉ f2) ∧ keyS a ≠ keyS b
  | _, _, _ => False
def ResAt (G : Gb) (Hi H H' : Hp) (fp : List Addr) (v : V) : R → Prop
  | .sh d => Rep G.K Hi v d
  | .ow d => ∃ p, v = .ref p ∧ Own G.K Hi H' p d ∧ Hi p = none ∧ H p = none ∧ p ∉ fp
  | .vr _ => False
  | .op t d => 10 ≤ t ∧ ∃ p fp2, v = .ref p ∧ G.Op.ok t d Hi H' p fp2 ∧ ∀ a ∈ fp2, Hi a = none ∧ H a = none ∧ a ∉ fp
structure Left (G : Gb) (Hi H : Hp) (pre : List V) (fp : List Addr) (Hi' H' : Hp) (io : Option Sl) (fp' : List Addr) : Prop where
  e : Ext Hi Hi'
  imm : Ext Hi' H'
  ov : ∀ a o, Hi' a = some o → Hi a = some o ∨ H a = none
  keep : ∀ a o, H a = some o → a ∉ fp → H' a = some o
  live : ∀ a, H a ≠ none → H' a ≠ none
  at_ : IoAt G Hi' H' io pre fp'
  cells : ∀ a ∈ fp', Hi' a = none ∧ (a ∈ fp ∨ H a = none)
def lift (G : Gb) (fs : FS) : Sp := fun vs H Q E => ∃ (io : Option Sl) (ds : List D) (Hi : Hp) (Qd : R → Option Sl → Prop) (Xd : Exn → Option Sl → Prop) (pre post : List V) (fp : List Addr),
  vs = pre ++ post ∧ IoAt G Hi H io pre fp ∧ Reps G.K Hi post ds ∧ Ext Hi H ∧ (∀ a ∈ fp, Hi a = none) ∧ fs io ds Qd Xd ∧
  (∀ v r H' Hi' io' fp', Left G Hi H pre fp Hi' H' io' fp' → ResAt G Hi' H H' fp' v r → Qd r io' → Q v H') ∧
  (∀ x c d H' Hi' io' fp', Left G Hi H pre fp Hi' H' io' fp' → G.xr x c d Hi' → Xd x io' → E c d H')

def ioL : Option Sl → Ev
  | none => []
  | some (.two a b) => [a, b]
  | some s => [s]
def Γ0 (io : Option Sl) (ds : List D) (n : Nat) : Ev := ioL io ++ ds.map Sl.sh ++ List.replicate (n - (ioL io ++ ds.map Sl.sh).length) .no
def ioOf (io : Option Sl) (Γ : Ev) : Option Sl := match io with
  | none => none
  | some (.two _ _) => (match Γ[0]?, Γ[1]? with
    | some a, some b => some (.two a b)
    | _, _ => none)
  | some _ => Γ[0]?
def retW (r : R) (Γ : Ev) (k : R → Ev → Prop) : Prop := match r with
  | .sh d => k (.sh d) Γ
  | .ow d => k (.ow d) Γ
  | .vr i => match Γ[i]? with
    | some (.sh d) => k (.sh d) Γ
    | some (.ow d) => k (.ow d) (Γ.set i .no)
    | some (.op t d) => 10 ≤ t ∧ k (.op t d) (Γ.set i .no)
    | _ => False
  | .op t d => 10 ≤ t ∧ k (.op t d) Γ
def SameOne : Sl → Sl → Prop
  | .io _, .io _ => True
  | .op t _, .op u _ => t = u
  | _, _ => False
def SameIo : Option Sl → Option Sl → Prop
  | none, none => True
  | some (.io _), some (.io _) => True
  | some (.op t _), some (.op u _) => t = u
  | some (.two a b), some (.two c d) => SameOne a c ∧ SameOne b d
  | _, _ => False
def FnV (fs : FS) (n : Nat) (ws : WS) : Prop := ∀ (io : Option Sl) (ds : List D) (Qd : R → Option Sl → Prop) (Xd : Exn → Option Sl → Prop), fs io ds Qd Xd →
  ws (Γ0 io ds n) ⟨fun Γ => SameIo io (ioOf io Γ) ∧ Qd (.sh .none) (ioOf io Γ), fun r Γ => retW r Γ fun r' Γ' => SameIo io (ioOf io Γ') ∧ Qd r' (ioOf io Γ'), fun _ => False, fun _ => False⟩ fun x Γ => SameIo io (ioOf io Γ) ∧ Xd x (ioOf io Γ)
def FnL (fs : FS) (m : Nat) : Prop := ∀ io ds Qd Xd, fs io ds Qd Xd → (ioL io ++ ds.map Sl.sh).length = m
theorem lift_len {fs : FS} {m : Nat} (h : FnL fs m) {vs : List V} {Q : VK} {E : XK} (l : lift G fs vs H Q E) : vs.length = m := by
  obtain ⟨io, ds, Hi, Qd, Xd, pre, post, fp, rfl, hio, hr, _, _, hf, _⟩ := l
  have := h io ds Qd Xd hf
  rw [← this, List.length_append, List.length_append, List.length_map, hr.length]
  congr 1
  cases io with
  | none => obtain ⟨rfl, _⟩ := hio; rfl
  | some s =>
    cases s with
    | io d => obtain ⟨p, rfl, _⟩ := hio; rfl
    | op t d => obtain ⟨_, p, rfl, _⟩ := hio; rfl
    | two a b => obtain ⟨p1, p2, f1, f2, rfl, _⟩ := hio; rfl
    | _ => exact hio.elim
theorem IoOne.trk {s : Sl} {p : Addr} {fp : List Addr} (h : IoOne G Hi H s p fp) : ∀ a ∈ fp, ∃ o, H a = some o := by
  cases s with
  | io d =>
    obtain ⟨rfl, ow⟩ := h
    intro a ha
    have : a = p := by simpa using ha
    rw [this]; exact ow.trk
  | op t d => exact G.Op.trk h.2
  | _ => exact h.elim
theorem IoAt.trk {io : Option Sl} {pre : List V} {fp : List Addr} (h : IoAt G Hi H io pre fp) : ∀ a ∈ fp, ∃ o, H a = some o := by
  cases io with
  | none => obtain ⟨_, rfl⟩ := h; intro a ha; cases ha
  | some s =>
    cases s with
    | io d =>
      obtain ⟨p, _, rfl, ow⟩ := h
      intro a ha
      have : a = p := by simpa using ha
      rw [this]; exact ow.trk
    | op t d => obtain ⟨_, p, _, ok⟩ := h; exact G.Op.trk ok
    | two a b =>
      obtain ⟨p1, p2, f1, f2, _, rfl, h1, h2, _⟩ := h
      intro a ha
      rcases List.mem_append.mp ha with ha | ha
      · exact h1.trk a ha
      · exact h2.trk a ha
    | _ => exact h.elim
def cfOf (Hi H : Hp) (io : Option Sl) (pre : List V) (fp : List Addr) (h : ∀ a ∈ fp, ∃ o, H a = some o) : Cf :=
  ⟨H, Hi, fun a => a ∈ fp, fun a ha => by obtain ⟨o, e⟩ := h a ha; rw [e]; simp, fun t => match io, pre with
    | some (.op u _), [.ref p] => if t = u then some p else none
    | some (.io _), [.ref p] => if t = 100 then some p else none
    | some (.two a b), [.ref p, .ref q] => if t = keyS a then some p else if t = keyS b then some q else none
    | _, _ => none⟩
theorem slots_sh {C : Cf} : ∀ {vs : List V} {ds : List D}, Reps G.K Hi vs ds → ∀ (i : Nat) s, (ds.map Sl.sh)[i]? = some s → ∃ x, (vs.map some)[i]? = some x ∧ SlOk G C Hi H x [] s := by
  intro vs ds r i s h
  rw [List.getElem?_map] at h
  cases q : ds[i]? with
  | none => rw [q] at h; cases h
  | some d =>
    rw [q] at h; cases h
    obtain ⟨v, h1, h2⟩ := r.get q
    exact ⟨some v, by rw [List.getElem?_map, h1]; rfl, rfl, v, rfl, h2⟩
theorem begin_sh (C : Cf) (hC : C.H0 = H) (hI : C.I0 = Hi) {vs : List V} {ds : List D} (r : Reps G.K Hi vs ds) (im : Ext Hi H) : Core G C Hi (vs.map some) H (ds.map Sl.sh) fun _ => [] := by
  subst hC hI
  exact ⟨fun a o h _ => h, fun a h => h, im, Ext.refl _, fun a o h => .inl h, by simp [r.length], slots_sh r, fun i j a _ _ h => (nomatch h), fun i a _ h => (nomatch h)⟩
theorem Core.front {C : Cf} {x : Option V} {l : List Addr} {s : Sl} {fp : Nat → List Addr} (c : Core G C Hi σ H Γ fp) (ok : SlOk G C Hi H x l s) (nw : ∀ a ∈ l, Hi a = none ∧ ∀ j, j < Γ.length → a ∉ fp j) :
    Core G C Hi (x :: σ) H (s :: Γ) (fun j => match j with | 0 => l | j + 1 => fp j) := by
  refine ⟨c.frame, c.live, c.imm, c.base, c.ov, by simp [c.len], fun j s' h => ?_, fun i j a hi hj h1 h2 => ?_, fun i a hi h => ?_⟩
  · cases j with
    | zero => simp at h; subst h; exact ⟨x, rfl, ok⟩
    | succ j =>
      obtain ⟨y, h1, h2⟩ := c.sl j s' (by simpa using h)
      exact ⟨y, by simpa using h1, h2⟩
  · cases i with
    | zero =>
      cases j with
      | zero => rfl
      | succ j => exact absurd h2 ((nw a h1).2 j (by simpa using hj))
    | succ i =>
      cases j with
      | zero => exact absurd h1 ((nw a h2).2 i (by simpa using hi))
      | succ j => exact congrArg (· + 1) (c.dj i j a (by simpa using hi) (by simpa using hj) h1 h2)
  · cases i with
    | zero => exact (nw a h).1
    | succ i => exact c.av i a (by simpa using hi) h
theorem Rel.more {C : Cf} (c : Rel G C Hi σ H Γ) : ∀ n : Nat, Rel G C Hi (σ ++ List.replicate n none) H (Γ ++ List.replicate n .no)
  | 0 => by simpa using c
  | n + 1 => by
    rw [List.replicate_succ', List.replicate_succ', ← List.append_assoc, ← List.append_assoc]
    obtain ⟨fp, c'⟩ := c.more n
    exact ⟨_, c'.push (l := []) (Ext.refl _) rfl fun a ha => (nomatch ha)⟩
theorem begin_rel {io : Option Sl} {pre post : List V} {ds : List D} {fp : List Addr} (hio : IoAt G Hi H io pre fp) (r : Reps G.K Hi post ds) (im : Ext Hi H) (av : ∀ a ∈ fp, Hi a = none) :
    Rel G (cfOf Hi H io pre fp hio.trk) Hi ((pre ++ post).map some) H (ioL io ++ ds.map Sl.sh) := by
  have sh0 := begin_sh (cfOf Hi H io pre fp hio.trk) rfl rfl r im
  cases io with
  | none =>
    obtain ⟨rfl, _⟩ := hio
    exact ⟨_, sh0⟩
  | some s =>
    cases s with
    | io d =>
      obtain ⟨p, rfl, rfl, ow⟩ := id hio
      exact ⟨_, sh0.front (x := some (.ref p)) (l := [p]) (s := .io d) ⟨p, rfl, rfl, ow, show p ∈ [p] from List.mem_singleton.mpr rfl, fun q hq => by
        have hq : (if 100 = 100 then some p else none) = some q := hq
        rw [if_pos rfl] at hq
        exact Option.some.inj hq⟩ fun a ha => ⟨av a ha, fun j _ h => (nomatch h)⟩⟩
    | op t d =>
      obtain ⟨ht, p, rfl, ok⟩ := id hio
      refine ⟨_, sh0.front (x := some (.ref p)) (l := fp) (s := .op t d) ⟨p, rfl, ok, fun a ha => .inr ⟨by assumption, ha⟩, fun q _ hq => ?_⟩ fun a ha => ⟨av a ha, fun j _ h => (nomatch h)⟩⟩
      have hq : (if t = t then some p else none) = some q := hq
      rw [if_pos rfl] at hq
      exact Option.some.inj hq
    | two a b =>
      obtain ⟨p1, p2, f1, f2, rfl, rfl, h1, h2, dj, ky⟩ := id hio
      have pa1 : ∀ q, (cfOf Hi H (some (.two a b)) [.ref p1, .ref p2] (f1 ++ f2) hio.trk).pa (keyS a) = some q → p1 = q := fun q hq => by
        have hq : (if keyS a = keyS a then some p1 else if keyS a = keyS b then some p2 else none) = some q := hq
        rw [if_pos rfl] at hq
        exact Option.some.inj hq
      have pa2 : ∀ q, (cfOf Hi H (some (.two a b)) [.ref p1, .ref p2] (f1 ++ f2) hio.trk).pa (keyS b) = some q → p2 = q := fun q hq => by
        have hq : (if keyS b = keyS a then some p1 else if keyS b = keyS b then some p2 else none) = some q := hq
        rw [if_neg (Ne.symm ky), if_pos rfl] at hq
        exact Option.some.inj hq
      have mk : ∀ (s : Sl) (p : Addr) (f : List Addr), IoOne G Hi H s p f → (∀ x ∈ f, x ∈ f1 ++ f2) → (∀ q, (cfOf Hi H (some (.two a b)) [.ref p1, .ref p2] (f1 ++ f2) hio.trk).pa (keyS s) = some q → p = q) → SlOk G (cfOf Hi H (some (.two a b)) [.ref p1, .ref p2] (f1 ++ f2) hio.trk) Hi H (some (.ref p)) f s := fun s p f h hf hp => by
        cases s with
        | io d =>
          obtain ⟨rfl, ow⟩ := h
          exact ⟨p, rfl, rfl, ow, hf p (List.mem_singleton.mpr rfl), hp⟩
        | op t d => exact ⟨p, rfl, h.2, fun x hx => .inr ⟨h.1, hf x hx⟩, fun q _ hq => hp q hq⟩
        | _ => exact h.elim
      have c2 := sh0.front (x := some (.ref p2)) (l := f2) (s := b) (mk b p2 f2 h2 (fun x hx => List.mem_append_right _ hx) pa2) fun x hx => ⟨av x (List.mem_append_right _ hx), fun j _ h => (nomatch h)⟩
      have c1 := c2.front (x := some (.ref p1)) (l := f1) (s := a) (mk a p1 f1 h1 (fun x hx => List.mem_append_left _ hx) pa1) fun x hx => ⟨av x (List.mem_append_left _ hx), fun j _ h => by
        cases j with
        | zero => exact dj x hx h
        | succ j => exact nomatch h⟩
      exact ⟨_, c1⟩
    | _ => exact hio.elim
theorem end_left {io : Option Sl} {pre : List V} {fp : List Addr} {Γ' : Ev} {σ' : St} {fpf : Nat → List Addr} (hio : IoAt G Hi H io pre fp) {h : ∀ a ∈ fp, ∃ o, H a = some o} (c : Core G (cfOf Hi H io pre fp h) Hi' σ' H' Γ' fpf) (e : Ext Hi Hi')
    (h0 : SameIo io (ioOf io Γ')) : ∃ fp', Left G Hi H pre fp Hi' H' (ioOf io Γ') fp' ∧ ∀ a ∈ fp', ∃ j, j < Γ'.length ∧ a ∈ fpf j := by
  have base : ∀ fp', IoAt G Hi' H' (ioOf io Γ') pre fp' → (∀ a ∈ fp', Hi' a = none ∧ (a ∈ fp ∨ H a = none)) → Left G Hi H pre fp Hi' H' (ioOf io Γ') fp' := fun fp' ia ce =>
    ⟨e, c.imm, c.ov, fun a o q n => c.frame a o q n, c.live, ia, ce⟩
  have cell : ∀ j, j < Γ'.length → ∀ a ∈ fpf j, Hi' a = none ∧ (a ∈ fp ∨ H a = none) := fun j hj a ha => ⟨c.av j a hj ha, by
    rcases c.home hj ha with q | q
    · exact .inr q
    · exact .inl q⟩
  have single : ∀ s0, io = some s0 → (∀ a b, s0 ≠ .two a b) → ioOf io Γ' = Γ'[0]? → ∃ fp', Left G Hi H pre fp Hi' H' (ioOf io Γ') fp' ∧ ∀ a ∈ fp', ∃ j, j < Γ'.length ∧ a ∈ fpf j := by
    rintro s0 rfl hne ei
    cases hs : Γ'[0]? with
    | none =>
      rw [ei, hs] at h0
      cases s0 <;> exact h0.elim
    | some s =>
      have h0l : 0 < Γ'.length := (List.getElem?_eq_some_iff.mp hs).1
      obtain ⟨x, hx, ok⟩ := c.sl 0 s hs
      refine ⟨fpf 0, base _ ?_ (cell 0 h0l), fun a ha => ⟨0, h0l, ha⟩⟩
      rw [ei, hs]
      rw [ei, hs] at h0
      cases s0 with
      | io d0 =>
        cases s with
        | io d =>
          obtain ⟨p, rfl, rfl, _⟩ := id hio
          obtain ⟨p', e0, e1, ow, hio', _⟩ := ok
          have : p' = p := by
            have z : p' ∈ [p] := hio'
            simpa using z
          subst this
          exact ⟨p', rfl, e0, ow⟩
        | _ => exact h0.elim
      | op t0 d0 =>
        cases s with
        | op t d =>
          obtain ⟨ht, p, rfl, _⟩ := id hio
          obtain ⟨p', e1, ok', _, hpa⟩ := ok
          have h0 : t0 = t := h0
          subst h0
          have : p' = p := hpa p ht (show (if t0 = t0 then some p else none) = some p from if_pos rfl)
          subst this
          exact ⟨ht, p', rfl, ok'⟩
        | _ => exact h0.elim
      | two a b => exact absurd rfl (hne a b)
      | _ => exact h0.elim
  cases io with
  | none =>
    obtain ⟨rfl, rfl⟩ := id hio
    exact ⟨[], base [] ⟨rfl, rfl⟩ (fun a ha => (nomatch ha)), fun a ha => (nomatch ha)⟩
  | some s0 =>
    cases s0 with
    | two a b =>
      obtain ⟨p1, p2, f1, f2, rfl, rfl, h1, h2, dj, ky⟩ := id hio
      have ei : ioOf (some (.two a b)) Γ' = (match Γ'[0]?, Γ'[1]? with
        | some a, some b => some (.two a b)
        | _, _ => none) := rfl
      cases hs1 : Γ'[0]? with
      | none => rw [ei, hs1] at h0; exact h0.elim
      | some a' =>
        cases hs2 : Γ'[1]? with
        | none => rw [ei, hs1, hs2] at h0; exact h0.elim
        | some b' =>
          have l1 : 1 < Γ'.length := (List.getElem?_eq_some_iff.mp hs2).1
          have l0 : 0 < Γ'.length := by omega
          obtain ⟨x1, hx1, ok1⟩ := c.sl 0 a' hs1
          obtain ⟨x2, hx2, ok2⟩ := c.sl 1 b' hs2
          rw [ei, hs1, hs2] at h0
          have h0 : SameOne a a' ∧ SameOne b b' := h0
          have pa1 : (cfOf Hi H (some (.two a b)) [.ref p1, .ref p2] (f1 ++ f2) h).pa (keyS a) = some p1 := by
            show (if keyS a = keyS a then some p1 else if keyS a = keyS b then some p2 else none) = some p1
            rw [if_pos rfl]
          have pa2 : (cfOf Hi H (some (.two a b)) [.ref p1, .ref p2] (f1 ++ f2) h).pa (keyS b) = some p2 := by
            show (if keyS b = keyS a then some p1 else if keyS b = keyS b then some p2 else none) = some p2
            rw [if_neg (Ne.symm ky), if_pos rfl]
          have one : ∀ (s s' : Sl) (p : Addr) (f f' : List Addr) (x : Option V), IoOne G Hi H s p f → SameOne s s' → (cfOf Hi H (some (.two a b)) [.ref p1, .ref p2] (f1 ++ f2) h).pa (keyS s) = some p → SlOk G (cfOf Hi H (some (.two a b)) [.ref p1, .ref p2] (f1 ++ f2) h) Hi' H' x f' s' → IoOne G Hi' H' s' p f' ∧ keyS s = keyS s' := fun s s' p f f' x hs ss hp ok => by
            cases s with
            | io d =>
              cases s' with
              | io d' =>
                obtain ⟨p', e0, e1, ow, _, hpa⟩ := ok
                have : p' = p := hpa p hp
                subst this
                exact ⟨⟨e0, ow⟩, rfl⟩
              | _ => exact ss.elim
            | op t d =>
              cases s' with
              | op t' d' =>
                obtain ⟨p', e1, ok', _, hpa⟩ := ok
                have ss : t = t' := ss
                subst ss
                have : p' = p := hpa p hs.1 hp
                subst this
                exact ⟨⟨hs.1, ok'⟩, rfl⟩
              | _ => exact ss.elim
            | _ => exact hs.elim
          obtain ⟨o1, k1⟩ := one a a' p1 f1 (fpf 0) x1 h1 h0.1 pa1 ok1
          obtain ⟨o2, k2⟩ := one b b' p2 f2 (fpf 1) x2 h2 h0.2 pa2 ok2
          refine ⟨fpf 0 ++ fpf 1, base _ ?_ (fun x hx => ?_), fun x hx => ?_⟩
          · rw [ei, hs1, hs2]
            exact ⟨p1, p2, _, _, rfl, rfl, o1, o2, fun x hx hx' => (by have := c.dj 0 1 x l0 l1 hx hx'; omega), by rw [← k1, ← k2]; exact ky⟩
          · rcases List.mem_append.mp hx with hx | hx
            · exact cell 0 l0 x hx
            · exact cell 1 l1 x hx
          · rcases List.mem_append.mp hx with hx | hx
            · exact ⟨0, l0, hx⟩
            · exact ⟨1, l1, hx⟩
    | io d => exact single _ rfl (fun a b e => nomatch e) rfl
    | op t d => exact single _ rfl (fun a b e => nomatch e) rfl
    | _ => exact hio.elim

theorem Core.trunc {C : Cf} {σ2 : St} {Γ2 : Ev} {fp : Nat → List Addr} (c : Core G C Hi (σ ++ σ2) H (Γ ++ Γ2) fp) (hl : Γ.length = σ.length) : Core G C Hi σ H Γ fp := by
  refine ⟨c.frame, c.live, c.imm, c.base, c.ov, hl, fun j s h => ?_, fun i j a hi hj => c.dj i j a (by simp; omega) (by simp; omega), fun i a hi => c.av i a (by simp; omega)⟩
  have hj : j < Γ.length := (List.getElem?_eq_some_iff.mp h).1
  obtain ⟨x, h1, h2⟩ := c.sl j s (by rw [List.getElem?_append_left hj]; exact h)
  exact ⟨x, by rw [List.getElem?_append_left (by omega)] at h1; exact h1, h2⟩
theorem Core.push2 {C : Cf} {x : Option V} {l : List Addr} {s : Sl} {fp : Nat → List Addr} (c : Core G C Hi σ H Γ fp) (sok : SlOk G C Hi H x l s) (nw : ∀ a ∈ l, Hi a = none ∧ ∀ j, j < Γ.length → a ∉ fp j) :
    Core G C Hi (σ ++ [x]) H (Γ ++ [s]) (fun j => if j = Γ.length then l else fp j) where
  frame := c.frame
  live := c.live
  imm := c.imm
  base := c.base
  ov := c.ov
  len := by simp [c.len]
  sl := fun j s' h => by
    by_cases hj : j < Γ.length
    · rw [List.getElem?_append_left hj] at h
      obtain ⟨y, h1, h2⟩ := c.sl j s' h
      refine ⟨y, by rw [List.getElem?_append_left (by rw [← c.len]; exact hj)]; exact h1, ?_⟩
      rw [if_neg (Nat.ne_of_lt hj)]
      exact h2
    · rw [List.getElem?_append_right (Nat.le_of_not_lt hj)] at h
      have hj0 : j - Γ.length = 0 := by
        have := (List.getElem?_eq_some_iff.mp h).1
        simp at this; omega
      rw [hj0] at h
      simp at h; subst h
      have : j = Γ.length := by omega
      subst this
      refine ⟨x, by rw [c.len]; simp, ?_⟩
      rw [if_pos rfl]; exact sok
  dj := fun j m a hj hm h1 h2 => by
    simp at hj hm
    by_cases ej : j = Γ.length <;> by_cases em : m = Γ.length
    · rw [ej, em]
    · rw [if_pos ej] at h1; rw [if_neg em] at h2
      exact absurd h2 ((nw a h1).2 m (by omega))
    · rw [if_neg ej] at h1; rw [if_pos em] at h2
      exact absurd h1 ((nw a h2).2 j (by omega))
    · rw [if_neg ej] at h1; rw [if_neg em] at h2
      exact c.dj j m a (by omega) (by omega) h1 h2
  av := fun j a hj h => by
    simp at hj
    by_cases ej : j = Γ.length
    · rw [if_pos ej] at h; exact (nw a h).1
    · rw [if_neg ej] at h; exact c.av j a (by omega) h
theorem end_ret {io : Option Sl} {pre : List V} {fp : List Addr} {Γ' : Ev} {σ' : St} {v : V} {r : R} {k : R → Option Sl → Prop} (hio : IoAt G Hi H io pre fp) {h : ∀ a ∈ fp, ∃ o, H a = some o} (e : Ext Hi Hi')
    (o : Out G (cfOf Hi H io pre fp h) Hi' σ' H' Γ' v r) (q : retW r Γ' fun r' Γ2 => SameIo io (ioOf io Γ2) ∧ k r' (ioOf io Γ2)) :
    ∃ r' io' fp', Left G Hi H pre fp Hi' H' io' fp' ∧ ResAt G Hi' H H' fp' v r' ∧ k r' io' := by
  cases r with
  | sh d =>
    obtain ⟨⟨fpf, c⟩, rp⟩ := o
    obtain ⟨s, q⟩ := q
    obtain ⟨fp', L, _⟩ := end_left hio c e s
    exact ⟨.sh d, _, fp', L, rp, q⟩
  | ow d =>
    obtain ⟨hl, fpf, c⟩ := o
    obtain ⟨s, q⟩ := q
    obtain ⟨fp', L, hfp⟩ := end_left hio (c.trunc hl) e s
    obtain ⟨x, hx, p, f1, e1, ow, h0⟩ := c.sl Γ'.length (.ow d) (by simp)
    have hx : x = some v := by
      rw [hl] at hx
      simpa using hx.symm
    rw [hx] at e1
    cases e1
    have h0 : H p = none := h0
    refine ⟨.ow d, _, fp', L, ⟨p, rfl, ow, c.av Γ'.length p (by simp) (by rw [f1]; simp), h0, fun hm => ?_⟩, q⟩
    obtain ⟨j, hj, hm⟩ := hfp _ hm
    have := c.dj j Γ'.length p (by simp; omega) (by simp) hm (by rw [f1]; simp)
    omega
  | vr i =>
    obtain ⟨⟨fpf, c⟩, hv⟩ := o
    unfold retW at q
    dsimp only at q
    split at q
    · rename_i d ed
      obtain ⟨s, q⟩ := q
      obtain ⟨fp', L, _⟩ := end_left hio c e s
      obtain ⟨w, h1, h2⟩ := Rel.at_sh ⟨fpf, c⟩ ed
      rw [hv] at h1; cases h1
      exact ⟨.sh d, _, fp', L, h2, q⟩
    · rename_i d ed
      obtain ⟨s, q⟩ := q
      have hi : i < Γ'.length := (List.getElem?_eq_some_iff.mp ed).1
      obtain ⟨x, hx, p, f1, e1, ow, h0⟩ := c.sl i _ ed
      rw [hx] at hv
      cases hv
      cases e1
      have h0 : H p = none := h0
      have c2 := c.put (x := none) (l := []) (s := .no) hi rfl fun a ha => (nomatch ha)
      obtain ⟨fp', L, hfp⟩ := end_left hio c2 e s
      refine ⟨.ow d, _, fp', L, ⟨p, rfl, ow, c.av i p hi (by rw [f1]; simp), h0, fun hm => ?_⟩, q⟩
      obtain ⟨j, hj, hm⟩ := hfp _ hm
      by_cases h0i : j = i
      · rw [if_pos h0i] at hm; cases hm
      · rw [if_neg h0i] at hm
        exact h0i (c.dj j i p (by rw [List.length_set] at hj; exact hj) hi hm (by rw [f1]; simp))
    · rename_i t d ed
      obtain ⟨ht, s, q⟩ := q
      have hi : i < Γ'.length := (List.getElem?_eq_some_iff.mp ed).1
      obtain ⟨x, hx, p, e1, okk, hh, _⟩ := c.sl i _ ed
      rw [hx] at hv
      cases hv
      cases e1
      have c2 := c.put (x := none) (l := []) (s := .no) hi rfl fun a ha => (nomatch ha)
      obtain ⟨fp', L, hfp⟩ := end_left hio c2 e s
      refine ⟨.op t d, _, fp', L, ⟨ht, p, fpf i, rfl, okk, fun a ha => ⟨c.av i a hi ha, ?_, fun hm => ?_⟩⟩, q⟩
      · rcases hh a ha with z | ⟨z, _⟩
        · exact z
        · omega
      · obtain ⟨j, hj, hm⟩ := hfp _ hm
        by_cases h0i : j = i
        · rw [if_pos h0i] at hm; cases hm
        · rw [if_neg h0i] at hm
          exact h0i (c.dj j i a (by rw [List.length_set] at hj; exact hj) hi hm ha)
    · exact q.elim
  | op t d =>
    obtain ⟨hl, fpf, c⟩ := o
    obtain ⟨ht, s, q⟩ := q
    obtain ⟨fp', L, hfp⟩ := end_left hio (c.trunc hl) e s
    obtain ⟨x, hx, p, e1, okk, hh, _⟩ := c.sl Γ'.length (.op t d) (by simp)
    have hx : x = some v := by
      rw [hl] at hx
      simpa using hx.symm
    rw [hx] at e1
    cases e1
    refine ⟨.op t d, _, fp', L, ⟨ht, p, fpf Γ'.length, rfl, okk, fun a ha => ⟨c.av Γ'.length a (by simp) ha, ?_, fun hm => ?_⟩⟩, q⟩
    · rcases hh a ha with z | ⟨z, _⟩
      · exact z
      · omega
    · obtain ⟨j, hj, hm⟩ := hfp _ hm
      have := c.dj j Γ'.length a (by simp; omega) (by simp) hm ha
      omega
theorem vbody {N : List Str} {fs : FS} {ws : WS} {t : TS} {vs : List V} {Q : VK} {E : XK} (hV : FnV fs N.length ws) (hs : SimS G (fun c d _ H => E c d H) t ws) (hsp : lift G fs vs H Q E) : t { nx := fun _ H' => Q .non H', rt := Q } (start N vs) H := by
  obtain ⟨io, ds, Hi, Qd, Xd, pre, post, fp, rfl, hio, hrep, im, av, hf, hQ, hX⟩ := hsp
  have c := (begin_rel hio hrep im av).more (N.length - (pre ++ post).length)
  have el : (pre ++ post).length = (ioL io ++ ds.map Sl.sh).length := by
    have := (begin_rel hio hrep im av).len
    rw [this, List.length_map]
  have eG : ioL io ++ ds.map Sl.sh ++ List.replicate (N.length - (pre ++ post).length) Sl.no = Γ0 io ds N.length := by rw [el]; rfl
  rw [eG] at c
  have wv := hV io ds Qd Xd hf
  exact hs _ Hi _ H _ _ _ _ c wv (fun σ' H' Hi' Γ' e c' ⟨s1, q⟩ => by
      obtain ⟨fpf, c'⟩ := c'
      obtain ⟨fp', L, _⟩ := end_left hio c' e s1
      exact hQ .non (.sh .none) H' Hi' _ fp' L .non q)
    (fun v r σ' H' Hi' Γ' e o q => by
      obtain ⟨r', io', fp', L, ra, q'⟩ := end_ret hio e o q
      exact hQ v r' H' Hi' io' fp' L ra q')
    (fun _ _ _ _ _ _ z => z.elim) (fun _ _ _ _ _ _ z => z.elim)
    (fun x c d σ' H' Hi' Γ' e c' hx ⟨s1, q⟩ => by
      obtain ⟨fpf, c'⟩ := c'
      obtain ⟨fp', L, _⟩ := end_left hio c' e s1
      exact hX x c d H' Hi' _ fp' L hx q)
theorem vfn {P : Program} {w : World} {K : Fg} {mg : Str → Option Value} {base : Heap} {x qual : Str} {params : Arguments} {body : List Stmt} {scope : Scope} {dvs : List V} {kws : List (Str × V)} {f : Addr} {fd : FuncData} {N ps : List Str} {k : Nat} {Op : OpSem} {ca : Str → Addr} {fs : FS} {ws : WS}
    (F : FunD K x qual params body scope dvs kws f fd) (S : FnScope N ps scope) (hL : FnL fs ps.length) (hV : FnV fs N.length ws)
    (hb : ∀ (cdv : Value) (A : Around) (outer : List Env) (s : Shared) (H : Hp) (E : XK), Room k (A.deeper (PyProof.Rows.envOfC qual scope s.heap.objs.size f cdv)) →
      ∃ t, PSs (cxOf (L2N.CX P w) P w K mg base N qual scope f cdv A outer s H E) body t ∧ SimS ⟨K, Op, ca⟩ (fun c d _ H => E c d H) t ws) : FnOk P w K mg base (L2N.CX P w) (k + 1) f fd ps (lift ⟨K, Op, ca⟩ fs) := by
  refine FunD.ok F S (fun vs H Q E h => lift_len hL h) fun cdv A outer s H vs Q E hr hsp => ?_
  obtain ⟨t, hp, hs⟩ := hb cdv A outer s H E hr
  exact ⟨t, hp, vbody hV hs hsp⟩

def wCall (fs : FS) (dv : List D) (wa : WA) : WE := fun Γ Q X => wa Γ (fun rs Γ1 => frAll rs Γ1 fun ds Γ2 => fs none (ds ++ dv) (fun r _ => Q r Γ2) fun x _ => X x Γ2) X
theorem sim_callSD {fs : FS} {ta : TA} {wa : WA} {dvs : List V} {dv : List D} (hd : ∀ Hi, Reps G.K Hi dvs dv) (ha : SimA G W ta wa) : SimE G W (tCallSD (lift G fs) dvs (L2.WE W) ta) (wCall fs dv wa) := by
  intro C Hi σ H Γ Q Qd Xd c hw hQ hX
  refine ha C Hi σ H Γ _ _ Xd c hw (fun vs rs H1 Hi1 Γ1 e1 c1 h1 q1 => ?_) hX
  obtain ⟨ds, Hi2, Γ2, e2, c2, rp, q2⟩ := h1.share (Ext.refl _) c1 q1
  have f2 := e1.trans e2
  refine ⟨none, ds ++ dv, Hi2, _, _, [], vs ++ dvs, [], rfl, ⟨rfl, rfl⟩, rp.append (hd Hi2), c2.imm, fun a ha => (nomatch ha), q2, fun v r H' Hi' io' fp' L ra q => ?_, fun x cl d H' Hi' io' fp' L hx q => ?_⟩
  · have c3 := c2.grow (fun a o h => L.keep a o h (fun z => nomatch z)) L.e L.imm L.ov
    cases r with
    | sh d => exact hQ v (.sh d) H' Hi' Γ2 (f2.trans L.e) ⟨c3, ra⟩ q
    | vr i => exact ra.elim
    | ow d =>
      obtain ⟨p, rfl, ow, hn, h0, hnf⟩ := ra
      obtain ⟨fpc, c2⟩ := c2
      obtain ⟨n1, n2⟩ := c2.fresh h0
      have c4 := c2.grow (fun a o h => L.keep a o h (fun z => nomatch z)) L.e L.imm L.ov
      refine hQ _ (.ow d) H' Hi' Γ2 (f2.trans L.e) ⟨c4.len, _, c4.push2 (x := some (.ref p)) (l := [p]) (s := .ow d) ⟨p, rfl, rfl, ow, n2⟩ fun a ha => ?_⟩ q
      have : a = p := by simpa using ha
      subst this
      exact ⟨hn, fun j hj hm => by obtain ⟨o, z⟩ := c2.trk hj hm; rw [h0] at z; cases z⟩
    | op t d =>
      obtain ⟨ht, p, fp2, rfl, okk, hn⟩ := ra
      obtain ⟨fpc, c2⟩ := c2
      have c4 := c2.grow (fun a o h => L.keep a o h (fun z => nomatch z)) L.e L.imm L.ov
      refine hQ _ (.op t d) H' Hi' Γ2 (f2.trans L.e) ⟨c4.len, _, c4.push2 (x := some (.ref p)) (l := fp2) (s := .op t d) ⟨p, rfl, okk, fun a ha => .inl (c2.fresh (hn a ha).2.1).2, fun q hq => by omega⟩ fun a ha => ?_⟩ q
      exact ⟨(hn a ha).1, fun j hj hm => by obtain ⟨o, z⟩ := c2.trk hj hm; rw [(hn a ha).2.1] at z; cases z⟩
  · have c3 := c2.grow (fun a o h => L.keep a o h (fun z => nomatch z)) L.e L.imm L.ov
    exact hX x cl d H' Hi' Γ2 (f2.trans L.e) c3 hx q
def hand (t : Nat) : Nat := t % 10
theorem hand_lt (t : Nat) : hand t < 10 := Nat.mod_lt _ (by decide)
def ioW (i : Nat) (Γ : Ev) (k : Sl → (Option Sl → Ev) → Prop) : Prop := match Γ[i]? with
  | some (.ow d) => k (.io d) fun s => match s with
    | some (.io d') => Γ.set i (.ow d')
    | _ => Γ
  | some (.io d) => k (.io d) fun s => match s with
    | some (.io d') => Γ.set i (.io d')
    | _ => Γ
  | some (.op t d) => k (.op (hand t) d) fun s => match s with
    | some (.op _ d') => Γ.set i (.op t d')
    | _ => Γ
  | _ => False
def isOwn (Γ : Ev) (i : Nat) : Prop := match Γ[i]? with
  | some (.ow _) => True
  | some (.io _) => True
  | some (.op _ _) => True
  | _ => False
theorem Core.after {C : Cf} {fpf : Nat → List Addr} {i : Nat} {p : Addr} {s0 s1 : Sl} {io' : Option Sl} {fp' : List Addr} (c : Core G C Hi σ H Γ fpf) (h : Γ[i]? = some s0) (hp : σ[i]? = some (some (.ref p))) (L : Left G Hi H [.ref p] (fpf i) Hi' H' io' fp')
    (ok : SlOk G C Hi' H' (some (.ref p)) fp' s1) : Core G C Hi' σ H' (Γ.set i s1) (fun j => if j = i then fp' else fpf j) := by
  have hi : i < Γ.length := (List.getElem?_eq_some_iff.mp h).1
  have hs : σ.set i (some (.ref p)) = σ := by
    obtain ⟨hl, e1⟩ := List.getElem?_eq_some_iff.mp hp
    rw [← e1]; exact List.set_getElem_self hl
  have st := c.step (H' := H') (Hi' := Hi') (x := some (.ref p)) (l := fp') (s := s1) hi L.e (fun a o h n => L.keep a o h n) (fun a ha => by
      obtain ⟨o, z⟩ := c.trk hi ha
      exact L.live a (by rw [z]; simp)) L.imm
    (fun a o z => by
      rcases L.ov a o z with q | q
      · exact .inl q
      · exact .inr (c.fresh q).2) ok
    (fun a ha => ⟨(L.cells a ha).1, fun j hj hne hm => by
      rcases (L.cells a ha).2 with q | q
      · exact hne (c.dj j i a hj hi hm q)
      · obtain ⟨o, z⟩ := c.trk hj hm
        rw [q] at z; cases z⟩)
    (fun j a hj hne hm => by
      cases q : Hi' a with
      | none => rfl
      | some o =>
        rcases L.ov a o q with z | z
        · rw [c.av j a hj hm] at z; cases z
        · obtain ⟨u, hu⟩ := c.trk hj hm
          rw [z] at hu; cases hu)
  rw [hs] at st
  exact st
theorem Core.ioAt {C : Cf} {fpf : Nat → List Addr} {i : Nat} {k : Sl → (Option Sl → Ev) → Prop} (c : Core G C Hi σ H Γ fpf) (h : ioW i Γ k) : ∃ p s0 s f, Γ[i]? = some s0 ∧ σ[i]? = some (some (.ref p)) ∧ IoAt G Hi H (some s) [.ref p] (fpf i) ∧ k s f ∧
    ∀ Hi' H' io' fp', Left G Hi H [.ref p] (fpf i) Hi' H' io' fp' → SameIo (some s) io' → Core G C Hi' σ H' (f io') (fun j => if j = i then fp' else fpf j) := by
  unfold ioW at h
  split at h
  · rename_i d e
    obtain ⟨x, hx, p, hf, e1, ow, h0⟩ := c.sl i _ e
    subst e1
    refine ⟨p, _, .io d, _, e, hx, ⟨p, rfl, hf, ow⟩, h, fun Hi' H' io' fp' L si => ?_⟩
    cases io' with
    | none => exact si.elim
    | some s =>
      cases s with
      | io d' =>
        obtain ⟨p', e2, e3, ow'⟩ := L.at_
        cases e2
        exact c.after e hx L ⟨p, e3, rfl, ow', h0⟩
      | _ => exact si.elim
  · rename_i d e
    obtain ⟨x, hx, p, hf, e1, ow, h0⟩ := c.sl i _ e
    subst e1
    refine ⟨p, _, .io d, _, e, hx, ⟨p, rfl, hf, ow⟩, h, fun Hi' H' io' fp' L si => ?_⟩
    cases io' with
    | none => exact si.elim
    | some s =>
      cases s with
      | io d' =>
        obtain ⟨p', e2, e3, ow'⟩ := L.at_
        cases e2
        exact c.after e hx L ⟨p, e3, rfl, ow', h0⟩
      | _ => exact si.elim
  · rename_i t d e
    obtain ⟨x, hx, p, e1, ok, hm, hpa⟩ := c.sl i _ e
    subst e1
    have hi : i < Γ.length := (List.getElem?_eq_some_iff.mp e).1
    refine ⟨p, _, .op (hand t) d, _, e, hx, ⟨hand_lt t, p, rfl, G.Op.hnd.mp ok⟩, h, fun Hi' H' io' fp' L si => ?_⟩
    cases io' with
    | none => exact si.elim
    | some s =>
      cases s with
      | op t' d' =>
        have si : hand t = t' := si
        subst si
        obtain ⟨_, p', e2, ok'⟩ := L.at_
        cases e2
        refine c.after e hx L ⟨p, rfl, G.Op.hnd.mpr ok', fun a ha => ?_, hpa⟩
        rcases (L.cells a ha).2 with q | q
        · exact hm a q
        · exact .inl (c.fresh q).2
      | _ => exact si.elim
  · exact h.elim
def wCallIo (fs : FS) (i : Nat) (dv : List D) (wa : WA) : WE := fun Γ Q X => isOwn Γ i ∧ wa Γ (fun rs Γ1 => frAll rs Γ1 fun ds Γ2 => ioW i Γ2 fun s f => fs (some s) (ds ++ dv) (fun r io => SameIo (some s) io ∧ Q r (f io)) fun x io => SameIo (some s) io ∧ X x (f io)) X
theorem sim_callIoSD {fs : FS} {ta : TA} {wa : WA} {dvs : List V} {dv : List D} (i : Nat) (hd : ∀ Hi, Reps G.K Hi dvs dv) (ha : SimA G W ta wa) : SimE G W (tCallSD (lift G fs) dvs (L2.WE W) (tCons (tVar i) ta)) (wCallIo fs i dv wa) := by
  intro C Hi σ H Γ Q Qd Xd c hw hQ hX
  obtain ⟨ho, hw⟩ := hw
  have hp : ∃ p, σ[i]? = some (some (.ref p)) := by
    obtain ⟨fpc, c⟩ := c
    unfold isOwn at ho
    split at ho
    · rename_i d e
      obtain ⟨x, hx, p, _, e1, _⟩ := c.sl i _ e
      exact ⟨p, by rw [hx, e1]⟩
    · rename_i d e
      obtain ⟨x, hx, p, _, e1, _⟩ := c.sl i _ e
      exact ⟨p, by rw [hx, e1]⟩
    · rename_i t d e
      obtain ⟨x, hx, p, e1, _⟩ := c.sl i _ e
      exact ⟨p, by rw [hx, e1]⟩
    · exact ho.elim
  obtain ⟨p, hp⟩ := hp
  refine ⟨_, hp, ha C Hi σ H Γ _ _ Xd c hw (fun vs rs H1 Hi1 Γ1 e1 c1 h1 q1 => ?_) hX⟩
  obtain ⟨ds, Hi2, Γ2, e2, c2, rp, q2⟩ := h1.share (Ext.refl _) c1 q1
  have f2 := e1.trans e2
  obtain ⟨fpc, c2⟩ := c2
  obtain ⟨p', s0, s, f, hs0, hp', hio, q3, back⟩ := c2.ioAt q2
  rw [hp] at hp'; cases hp'
  have hi : i < Γ2.length := (List.getElem?_eq_some_iff.mp hs0).1
  refine ⟨some s, ds ++ dv, Hi2, _, _, [.ref p], vs ++ dvs, fpc i, rfl, hio, rp.append (hd Hi2), c2.imm, fun a ha => c2.av i a hi ha, q3, fun v r H' Hi' io' fp' L ra ⟨si, q⟩ => ?_, fun x cl d H' Hi' io' fp' L hx ⟨si, q⟩ => ?_⟩
  · have c3 := back _ _ _ _ L si
    cases r with
    | sh d => exact hQ v (.sh d) H' Hi' _ (f2.trans L.e) ⟨⟨_, c3⟩, ra⟩ q
    | vr i => exact ra.elim
    | ow d =>
      obtain ⟨p2, rfl, ow, hn, h0, hnf⟩ := ra
      obtain ⟨n1, n2⟩ := c2.fresh h0
      have hfl : (f io').length = Γ2.length := by rw [c3.len, c2.len]
      refine hQ _ (.ow d) H' Hi' _ (f2.trans L.e) ⟨c3.len, _, c3.push2 (x := some (.ref p2)) (l := [p2]) (s := .ow d) ⟨p2, rfl, rfl, ow, n2⟩ fun a ha => ?_⟩ q
      have : a = p2 := by simpa using ha
      subst this
      refine ⟨hn, fun j hj hm => ?_⟩
      by_cases hji : j = i
      · rw [if_pos hji] at hm; exact hnf hm
      · rw [if_neg hji] at hm
        obtain ⟨o, z⟩ := c2.trk (by rw [hfl] at hj; exact hj) hm; rw [h0] at z; cases z
    | op t d =>
      obtain ⟨ht, p2, fp2, rfl, okk, hn⟩ := ra
      have hfl : (f io').length = Γ2.length := by rw [c3.len, c2.len]
      refine hQ _ (.op t d) H' Hi' _ (f2.trans L.e) ⟨c3.len, _, c3.push2 (x := some (.ref p2)) (l := fp2) (s := .op t d) ⟨p2, rfl, okk, fun a ha => .inl (c2.fresh (hn a ha).2.1).2, fun q hq => by omega⟩ fun a ha => ?_⟩ q
      refine ⟨(hn a ha).1, fun j hj hm => ?_⟩
      by_cases hji : j = i
      · rw [if_pos hji] at hm; exact (hn a ha).2.2 hm
      · rw [if_neg hji] at hm
        obtain ⟨o, z⟩ := c2.trk (by rw [hfl] at hj; exact hj) hm; rw [(hn a ha).2.1] at z; cases z
  · exact hX x cl d H' Hi' _ (f2.trans L.e) ⟨_, back _ _ _ _ L si⟩ hx q
end
end VL

set_option Elab.async false
set_option linter.all false
set_option maxRecDepth 100000
namespace VL
open PySem L2

structure DE (X : Cx) (G : Gb) (W : WX) (e : Expr) (t : TE) (w : WE) : Prop where
  pe : PE X e t
  sim : SimE G W t w
structure DT (X : Cx) (G : Gb) (W : WX) (e : Expr) (t : TT) (w : WT) : Prop where
  pe : PT X e t
  sim : SimT G W t w
structure DW (X : Cx) (G : Gb) (W : WX) (e : Expr) (t : TT) (w : WT) : Prop where
  pe : PW X e t
  sim : SimT G W t w
structure DA (X : Cx) (G : Gb) (W : WX) (es : List Expr) (t : TA) (w : WA) : Prop where
  pe : PA X es t
  sim : SimA G W t w
structure DSl (X : Cx) (G : Gb) (W : WX) (es : List Expr) (t : TA) (w : WSl) : Prop where
  pe : PA X es t
  sim : SimSl G W t w
structure DO (X : Cx) (G : Gb) (W : WX) (e : Option Expr) (t : TO) (w : WO) : Prop where
  pe : PO X e t
  sim : SimO G W t w
structure DS (X : Cx) (G : Gb) (W : WX) (e : Stmt) (t : TS) (w : WS) : Prop where
  pe : PS X e t
  sim : SimS G W t w
structure DB (X : Cx) (G : Gb) (W : WX) (e : List Stmt) (t : TS) (w : WS) : Prop where
  pe : PSs X e t
  sim : SimS G W t w
structure DI (X : Cx) (G : Gb) (W : WX) (tg e : Expr) (t : TI) (w : WI) : Prop where
  pe : PI X tg e t
  sim : SimI G W t w
structure DG (X : Cx) (G : Gb) (e : Expr) (t : TG) (w : WG) : Prop where
  pe : PG X e t
  sim : SimG G t w
structure DGs (X : Cx) (G : Gb) (e : List Expr) (t : TGs) (w : WGs) : Prop where
  pe : PGs X e t
  sim : SimGs G t w
structure DGw (X : Cx) (G : Gb) (vs : List Nat) (e : Expr) (t : TG) (w : WG) : Prop where
  pe : PG X e t
  sim : SimGw G t w vs
structure DGsw (X : Cx) (G : Gb) (vs : List Nat) (e : List Expr) (t : TGs) (w : WGs) : Prop where
  pe : PGs X e t
  sim : SimGsw G t w vs
structure DTs (X : Cx) (G : Gb) (W : WX) (e : List Expr) (t : TT) (w : WT) : Prop where
  pe : PTs X e t
  sim : SimT G W t w

section
variable {X : Cx} {G : Gb} {W : WX} {a b c e o i : Expr} {es : List Expr} {ta tb tc te to ti : TE} {wa wb wc we wo wi : WE} {pos pos' p p2 p3 : Pos} {t : TA} {w : WA}

theorem dv (i : Nat) {x : Str} (hN : X.N[i]? = some x := by rfl) (hv : Vis X.env.scope x := by first | exact Or.inl rfl | exact Or.inr (Or.inl rfl) | exact Or.inr (Or.inr rfl)) (hd : (x == ("__debug__" : Str)) = false := by decide)
    (hcd : (x == ("__classdict__" : Str)) = false := by decide) : DE X G W (.Name x pos) (tVar i) (wVar i) := ⟨pe_var hN hv hd hcd, sim_var i⟩
theorem de_int {i : Int} {j : Nat} : DE X G W (.Constant (.int i) j pos) (tC (.int i)) (wC (.int i)) := ⟨pe_int, sim_c fun _ => .int i⟩
theorem de_bl {i : Bool} {j : Nat} : DE X G W (.Constant (.bool i) j pos) (tC (.bl i)) (wC (.bool i)) := ⟨pe_bl, sim_c fun _ => .bl i⟩
theorem de_non {j : Nat} : DE X G W (.Constant .none j pos) (tC .non) (wC .none) := ⟨pe_non, sim_c fun _ => .non⟩
theorem de_str {i : Str} {j : Nat} : DE X G W (.Constant (.str i) j pos) (tC (.str i)) (wC (.str i)) := ⟨pe_str, sim_c fun _ => .str i⟩
theorem de_gstr {x z : Str} (h : ∃ t, X.mg x = some (.str z t)) (hg : Gl X x := by rfl) (hd : (x == ("__debug__" : Str)) = false := by decide) : DE X G W (.Name x pos) (tC (.str z)) (wC (.str z)) :=
  ⟨let ⟨t, h⟩ := h; pe_glob hg h ⟨t, rfl⟩ hd, sim_c fun _ => .str z⟩
theorem de_gint {x : Str} {z : Int} (h : ∃ t, X.mg x = some (.int z t)) (hg : Gl X x := by rfl) (hd : (x == ("__debug__" : Str)) = false := by decide) : DE X G W (.Name x pos) (tC (.int z)) (wC (.int z)) :=
  ⟨let ⟨t, h⟩ := h; pe_glob hg h ⟨t, rfl⟩ hd, sim_c fun _ => .int z⟩

theorem de_op {op : Operator} {r : R2} {f : Op2} (ho : OpR X (binaryOp op) r) (hs : Sem2 G r f) (ha : DE X G W a ta wa) (hb : DE X G W b tb wb) : DE X G W (.BinOp a op b pos) (tOp r ta tb) (wOp f wa wb) := ⟨pe_op ho ha.pe hb.pe, sim_op hs ha.sim hb.sim⟩
theorem de_add (hK : X.K = G.K) (ha : DE X G W a ta wa) (hb : DE X G W b tb wb) : DE X G W (.BinOp a .Add b pos) (tOp (rAddA G.K) ta tb) (wOp oAdd wa wb) := de_op (by rw [← hK]; exact op_addA) sem_add ha hb
theorem de_sub (ha : DE X G W a ta wa) (hb : DE X G W b tb wb) : DE X G W (.BinOp a .Sub b pos) (tOp (rI0 fun i j => .int (i - j)) ta tb) (wOp (oII (fun _ _ => True) (· - ·)) wa wb) := de_op op_sub sem_sub ha hb
theorem de_mul (ha : DE X G W a ta wa) (hb : DE X G W b tb wb) : DE X G W (.BinOp a .Mult b pos) (tOp rMulA ta tb) (wOp oMul wa wb) := de_op op_mulA sem_mul ha hb
theorem de_fdiv (ha : DE X G W a ta wa) (hb : DE X G W b tb wb) : DE X G W (.BinOp a .FloorDiv b pos) (tOp (rI CDivW fun i j => .int (i / j)) ta tb) (wOp (oII CDivW (· / ·)) wa wb) := de_op op_fdivW sem_fdiv ha hb
theorem de_mod (ha : DE X G W a ta wa) (hb : DE X G W b tb wb) : DE X G W (.BinOp a .Mod b pos) (tOp (rI (fun _ j => 0 < j) fun i j => .int (i % j)) ta tb) (wOp (oII (fun _ j => 0 < j) (· % ·)) wa wb) := de_op op_mod sem_mod ha hb
theorem de_neg (ha : DE X G W a ta wa) : DE X G W (.UnaryOp .USub a pos) (tUn (rU fun i => .int (-i)) ta) (wUn (fun a k => isI a fun i => k (.sh (.int (-i)))) wa) := ⟨pe_un un_neg ha.pe, sim_un sem_neg ha.sim⟩
structure C2 (X : Cx) (G : Gb) (op : CmpOp) (r : R2) (f : Op2) : Prop where
  op : OpR X (compareOp op) r
  sem : Sem2 G r f
theorem c_lt : C2 X G .Lt (rI0 fun i j => .bl (decide (i < j))) (oIB fun i j => decide (i < j)) := ⟨op_lt, sem_IB⟩
theorem c_le : C2 X G .LtE (rI0 fun i j => .bl (decide (i ≤ j))) (oIB fun i j => decide (i ≤ j)) := ⟨op_le, sem_IB⟩
theorem c_gt : C2 X G .Gt (rI0 fun i j => .bl (decide (j < i))) (oIB fun i j => decide (j < i)) := ⟨op_gt, sem_IB⟩
theorem c_eq (hK : X.K = G.K) (hu : X.A.units + 65 < cLine) : C2 X G .Eq (rEqD G.K) oEq := ⟨by rw [← hK]; exact op_eqD (by omega), sem_eq⟩
theorem c_ne (hK : X.K = G.K) (hu : X.A.units + 65 < cLine) : C2 X G .NotEq (rNeD G.K) oNe := ⟨by rw [← hK]; exact op_neD (by omega), sem_ne⟩
theorem c_in (hK : X.K = G.K) (hu : X.A.units + 65 < cLine) : C2 X G .In (rInA G.K) (oIn false) := ⟨by rw [← hK]; exact op_inA hu, sem_in⟩
theorem c_notin (hK : X.K = G.K) (hu : X.A.units + 65 < cLine) : C2 X G .NotIn (rNotInA G.K) (oIn true) := ⟨by rw [← hK]; exact op_notInA hu, sem_notin⟩
theorem c_isN : C2 X G .Is (fun x y H Q => y = .non ∧ Q (.bl (decide (x = .non))) H) oIsN := ⟨op_isN, sem_isN⟩
theorem de_cmp {op : CmpOp} {r : R2} {f : Op2} (h : C2 X G op r f) (ha : DE X G W a ta wa) (hb : DE X G W b tb wb) (hm : behindInMarks op b = false := by first | exact nobehind _ (by decide) (by decide) | rfl) : DE X G W (.Compare a [op] [b] pos) (tOp r ta tb) (wOp f wa wb) :=
  ⟨pe_cmpR h.op ha.pe hb.pe hm, sim_op h.sem ha.sim hb.sim⟩
theorem dt_cmp {op : CmpOp} {r : R2} {f : Op2} (h : C2 X G op r f) (ha : DE X G W a ta wa) (hb : DE X G W b tb wb) (hm : behindInMarks op b = false := by first | exact nobehind _ (by decide) (by decide) | rfl) : DT X G W (.Compare a [op] [b] pos) (tTest (tOp r ta tb)) (wT (wOp f wa wb)) :=
  ⟨pt_cmpR h.op ha.pe hb.pe hm, sim_tTest (sim_op h.sem ha.sim hb.sim)⟩
theorem de_chain {op op' : CmpOp} {r r' : R2} {f f' : Op2} (h : C2 X G op r f) (h' : C2 X G op' r' f') (ha : DE X G W a ta wa) (hb : DE X G W b tb wb) (hc : DE X G W c tc wc) (hl : lastMarks [op, op'] [b, c] = false := by with_unfolding_all rfl) :
    DE X G W (.Compare a [op, op'] [b, c] pos) (tChain r r' ta tb tc) (wChain f f' wa wb wc) := ⟨pe_chain h.op h'.op ha.pe hb.pe hc.pe hl, sim_chain h.sem h'.sem ha.sim hb.sim hc.sim⟩
theorem dt_chain {op op' : CmpOp} {r r' : R2} {f f' : Op2} (h : C2 X G op r f) (h' : C2 X G op' r' f') (ha : DE X G W a ta wa) (hb : DE X G W b tb wb) (hc : DE X G W c tc wc) (hl : lastMarks [op, op'] [b, c] = false := by with_unfolding_all rfl) :
    DT X G W (.Compare a [op, op'] [b, c] pos) (tTest (tChain r r' ta tb tc)) (wT (wChain f f' wa wb wc)) := ⟨pt_chain h.op h'.op ha.pe hb.pe hc.pe hl, sim_tTest (sim_chain h.sem h'.sem ha.sim hb.sim hc.sim)⟩

variable {rest : List Expr} {tt tu : TT} {wt wu : WT}
theorem de_one {op : BoolOp} (h : DE X G W a ta wa) : DE X G W (.BoolOp op [a] pos) ta wa := ⟨pe_one h.pe, h.sim⟩
theorem de_and (ha : DE X G W a ta wa) (hb : DE X G W (.BoolOp .And (b :: rest) pos) tb wb) : DE X G W (.BoolOp .And (a :: b :: rest) pos) (tAndV ta tb) (wAndV wa wb) := ⟨pe_and ha.pe hb.pe, sim_andV ha.sim hb.sim⟩
theorem de_or (ha : DE X G W a ta wa) (hb : DE X G W (.BoolOp .Or (b :: rest) pos) tb wb) : DE X G W (.BoolOp .Or (a :: b :: rest) pos) (tOrV ta tb) (wOrV wa wb) := ⟨pe_or ha.pe hb.pe, sim_orV ha.sim hb.sim⟩
theorem de_not (ha : DE X G W a ta wa) : DE X G W (.UnaryOp .Not a pos) (tNotV ta) (wNotV wa) := ⟨pe_not ha.pe, sim_notV ha.sim⟩
theorem dt_val (ha : DE X G W a ta wa) (he : ∀ whole, isTrue a X.env whole = (do let v ← whole; standAt a.pos; holding [v] (truthy v)) := by intro _; rfl) : DT X G W a (tB ta) (wT wa) := ⟨pt_val ha.pe he, sim_tB ha.sim⟩
theorem dt_not (ha : DT X G W a tt wt) : DT X G W (.UnaryOp .Not a pos) (tNot tt) (wNot wt) := ⟨pt_not ha.pe, sim_not ha.sim⟩
theorem dw_and1 (ha : DT X G W a tt wt) : DW X G W (.BoolOp .And [a] pos) tt wt := ⟨pw_and1 ha.pe, ha.sim⟩
theorem dw_or1 (ha : DT X G W a tt wt) : DW X G W (.BoolOp .Or [a] pos) tt wt := ⟨pw_or1 ha.pe, ha.sim⟩
theorem dw_and (ha : DT X G W a tt wt) (hb : DW X G W (.BoolOp .And (b :: rest) pos) tu wu) : DW X G W (.BoolOp .And (a :: b :: rest) pos) (tAnd tt tu) (wAnd wt wu) := ⟨pw_and ha.pe hb.pe, sim_and ha.sim hb.sim⟩
theorem dw_or (ha : DT X G W a tt wt) (hb : DW X G W (.BoolOp .Or (b :: rest) pos) tu wu) : DW X G W (.BoolOp .Or (a :: b :: rest) pos) (tOr tt tu) (wOr wt wu) := ⟨pw_or ha.pe hb.pe, sim_or ha.sim hb.sim⟩
theorem dt_chn (h : DW X G W a tt wt) : DT X G W a tt wt := ⟨PW.pt h.pe, h.sim⟩
theorem de_if (hc : DT X G W c tt wt) (ha : DE X G W a ta wa) (hb : DE X G W b tb wb) : DE X G W (.IfExp c a b pos) (tIf tt ta tb) (wIf wt wa wb) := ⟨pe_ifExp hc.pe ha.pe hb.pe, sim_if hc.sim ha.sim hb.sim⟩

theorem da_nil : DA X G W [] tNil wNil := ⟨pa_nil, sim_nil⟩
theorem da_cons (he : DE X G W e te we) (hr : DA X G W es t w) (hs : starEach (e :: es) X.env = (false, eval e X.env) :: starEach es X.env := by rfl) : DA X G W (e :: es) (tCons te t) (wCons we w) := ⟨pa_cons he.pe hr.pe hs, sim_cons he.sim hr.sim⟩
theorem dl_nil : DSl X G W [] tNil wsNil := ⟨pa_nil, sims_nil⟩
theorem dl_cons {ws : WSl} (he : DE X G W e te we) (hr : DSl X G W es t ws) (hs : starEach (e :: es) X.env = (false, eval e X.env) :: starEach es X.env := by rfl) : DSl X G W (e :: es) (tCons te t) (wsCons we ws) := ⟨pa_cons he.pe hr.pe hs, sims_cons he.sim hr.sim⟩
theorem de_tup {x1 : Nat} (h : DA X G W es t w) : DE X G W (.Tuple es x1 pos) (tTup t) (wTup w) := ⟨pe_tup h.pe, sim_tup h.sim⟩
theorem de_lst (h : DA X G W es t w) : DE X G W (.List es pos) (tLst t) (wLst w) := ⟨pe_lst h.pe, sim_lst h.sim⟩
theorem de_dict0 : DE X G W (.Dict [] [] pos) tDNewK wDict0 := ⟨pe_dnewK, sim_dict0⟩
theorem de_ix (hK : X.K = G.K) (hu : X.A.units + 65 < cLine) (ha : DE X G W a ta wa) (hb : DE X G W b tb wb) (hs : PlainIx b := by intro _ _; rfl) : DE X G W (.Subscript a b pos) (tOp (rIxA G.K) ta tb) (wOp oIx wa wb) :=
  ⟨pe_ix (by rw [← hK]; exact ix_any (by omega)) ha.pe hb.pe hs, sim_op sem_ix ha.sim hb.sim⟩
theorem do_none : DO X G W none tNoPart wNoP := ⟨po_none, simo_none⟩
theorem do_some (h : DE X G W a ta wa) : DO X G W (some a) (tPart ta) (wPart wa) := ⟨po_some h.pe, simo_some h.sim⟩
theorem de_cb {x : Str} {id : String} {r : List V → Hp → VK → Prop} {f : OpN} (hc : CallR X (.builtin id) r) (hs : SemN G r f) (hg : Gl X x) (hm : X.mg x = none) (hv : bootBuiltins x = some (.builtin id)) (ha : DA X G W (e :: es) t w) (hn : x ≠ "__name__" := by decide)
    (hdb : (x == ("__debug__" : Str)) = false := by decide) (he : starEach (e :: es) X.env = (false, eval e X.env) :: starEach es X.env := by rfl) (hpl : (backTo pos (starEach es X.env)).any (·.1) = false := by rfl) :
    DE X G W (.Call (.Name x p) (e :: es) [] pos) (tCB r t) (wCB f w) := ⟨pe_callB hc hg hm hv ha.pe hn hdb he hpl, sim_cb hs ha.sim⟩
theorem de_ct {x : Str} {id : String} {r : List V → Hp → VK → Prop} {f : OpN} (hc : CallR X (.type id) r) (hs : SemN G r f) (hg : Gl X x) (hm : X.mg x = none) (hv : bootBuiltins x = some (.type id)) (ha : DA X G W (e :: es) t w) (hn : x ≠ "__name__" := by decide)
    (hdb : (x == ("__debug__" : Str)) = false := by decide) (he : starEach (e :: es) X.env = (false, eval e X.env) :: starEach es X.env := by rfl) (hpl : (backTo pos (starEach es X.env)).any (·.1) = false := by rfl) :
    DE X G W (.Call (.Name x p) (e :: es) [] pos) (tCB r t) (wCB f w) := ⟨pe_callTy hc hg hm hv ha.pe hn hdb he hpl, sim_cb hs ha.sim⟩
structure B1 (X : Cx) (G : Gb) (id : String) (r : List V → Hp → VK → Prop) (f : OpN) : Prop where
  c : CallR X (.builtin id) r
  s : SemN G r f
structure T1 (X : Cx) (G : Gb) (id : String) (r : List V → Hp → VK → Prop) (f : OpN) : Prop where
  c : CallR X (.type id) r
  s : SemN G r f
theorem b_len (hK : X.K = G.K) : B1 X G "len" (rLenA G.K) (o1 oLen) := ⟨by rw [← hK]; exact call_lenA, sem_len⟩
theorem b_all (hK : X.K = G.K) (hc : X.calm = true) : B1 X G "all" (rAll G.K) (o1 oAll) := ⟨by rw [← hK]; exact cr_all hc, sem_all⟩
theorem b_max (hc : X.calm = true) : B1 X G "max" rMax2A (o2 oMax) := ⟨call_max2A hc, sem_max⟩
theorem b_min (hc : X.calm = true) : B1 X G "min" rMin2A (o2 oMin) := ⟨call_min2A hc, sem_min⟩
theorem b_abs : B1 X G "abs" rAbsA (o1 oAbs) := ⟨call_absA, sem_abs⟩
theorem t_int : T1 X G "int" rIntA (o1 oInt) := ⟨call_intA, sem_int⟩
theorem t_str : T1 X G "str" rStrIA (o1 oStrI) := ⟨call_strIA, sem_strI⟩
theorem de_b {x : Str} {id : String} {r : List V → Hp → VK → Prop} {f : OpN} (h : B1 X G id r f) (hm : X.mg x = none) (ha : DA X G W (e :: es) t w) (hg : Gl X x := by rfl) (hv : bootBuiltins x = some (.builtin id) := by decide +kernel) (hn : x ≠ "__name__" := by decide)
    (hdb : (x == ("__debug__" : Str)) = false := by decide) (he : starEach (e :: es) X.env = (false, eval e X.env) :: starEach es X.env := by rfl) (hpl : (backTo pos (starEach es X.env)).any (·.1) = false := by rfl) :
    DE X G W (.Call (.Name x p) (e :: es) [] pos) (tCB r t) (wCB f w) := de_cb h.c h.s hg hm hv ha hn hdb he hpl
theorem de_t {x : Str} {id : String} {r : List V → Hp → VK → Prop} {f : OpN} (h : T1 X G id r f) (hm : X.mg x = none) (ha : DA X G W (e :: es) t w) (hg : Gl X x := by rfl) (hv : bootBuiltins x = some (.type id) := by decide +kernel) (hn : x ≠ "__name__" := by decide)
    (hdb : (x == ("__debug__" : Str)) = false := by decide) (he : starEach (e :: es) X.env = (false, eval e X.env) :: starEach es X.env := by rfl) (hpl : (backTo pos (starEach es X.env)).any (·.1) = false := by rfl) :
    DE X G W (.Call (.Name x p) (e :: es) [] pos) (tCB r t) (wCB f w) := de_ct h.c h.s hg hm hv ha hn hdb he hpl
theorem de_isi {T : String} {y : Str} (hK : X.K = G.K) (hT : KitOk T) (hm : X.mg "isinstance" = none) (hm2 : X.mg y = none) (ha : DE X G W a ta wa) (hv2 : bootBuiltins y = some (.type T) := by decide +kernel) (hg : Gl X "isinstance" := by rfl) (hg2 : Gl X y := by rfl)
    (hn2 : y ≠ "__name__" := by decide) (hd2 : (y == ("__debug__" : Str)) = false := by decide) (he : starEach [a, .Name y p2] X.env = (false, eval a X.env) :: starEach [.Name y p2] X.env := by rfl) (he2 : starEach [.Name y p2] X.env = (false, eval (.Name y p2) X.env) :: starEach [] X.env := by rfl) (hpl : (backTo pos (starEach [.Name y p2] X.env)).any (·.1) = false := by rfl) :
    DE X G W (.Call (.Name "isinstance" p) [a, .Name y p2] [] pos) (tCB (rIsi G.K) (tCons ta (tCons (tC (.ty T)) tNil))) (wIsi T wa) :=
  ⟨pe_callB (by rw [← hK]; exact call_isi) hg hm (by decide +kernel) (pa_cons ha.pe (pa_cons (pe_bltn hg2 hm2 hv2 rfl hn2 hd2) pa_nil he2) he) (by decide) (by decide) he hpl, sim_isi hT ha.sim⟩

theorem de_append (hK : X.K = G.K) (i : Nat) {x : Str} {apos : Pos} (he : DE X G W e te we) (hN : X.N[i]? = some x := by rfl) (hv : Vis X.env.scope x := by first | exact Or.inl rfl | exact Or.inr (Or.inl rfl) | exact Or.inr (Or.inr rfl)) (hd : (x == ("__debug__" : Str)) = false := by decide)
    (hcd : (x == ("__classdict__" : Str)) = false := by decide) (h1 : attributeBase (.Name x p) "append" X.env (eval (.Name x p) X.env) = eval (.Name x p) X.env := by rfl)
    (h2 : (((backTo pos (starEach (e :: []) X.env)).all fun x => !x.fst) && (backToKw pos (keywordEach [] X.env)).all (fun x => x.fst.isSome) && decide (((e :: ([] : List Expr)).length + ([] : List Keyword).length + if ([] : List Keyword).isEmpty = true then 0 else 1) < 30)) = true := by rfl)
    (h3 : (apos.endLine == pos.line) = true := by rfl) (h4 : starEach (e :: []) X.env = (false, eval e X.env) :: starEach [] X.env := by rfl) (h5 : (backTo pos (starEach [] X.env)).any (·.1) = false := by rfl) :
    DE X G W (.Call (.Attribute (.Name x p) "append" apos) [e] [] pos) (tBM G.K "list" rAppend (tVar i) (tCons te tNil)) (wMut i fAppend (wCons we wNil)) :=
  ⟨by rw [← hK]; exact pe_bm PySem.F.plainAttrs_list PySem.F.slot_list_append PySem.F.type_list_append mt_append (pe_var hN hv hd hcd) (pa_cons he.pe pa_nil h4) h1 h2 h3 h4 h5, sim_mut i sem_append (sim_cons he.sim sim_nil)⟩

def CPowW (i j : Int) : Prop := 0 ≤ j ∧ (Builtin.Int.intBits i : Int) * j ≤ 2 ^ 27
theorem op_powW : OpR X (binaryOp .Pow) (rI CPowW fun i j => .int (i ^ j.toNat)) := opI fun _ _ _ _ _ _ _ hc q => PyProof.Rows.pow_int hc.1 hc.2 q
theorem sem_powW : Sem2 G (rI CPowW fun i j => .int (i ^ j.toNat)) (oII CPowW fun i j => i ^ j.toNat) := sem_II (fun _ _ h => h) fun _ _ _ => rfl
theorem de_pow (ha : DE X G W a ta wa) (hb : DE X G W b tb wb) : DE X G W (.BinOp a .Pow b pos) (tOp (rI CPowW fun i j => .int (i ^ j.toNat)) ta tb) (wOp (oII CPowW fun i j => i ^ j.toNat) wa wb) := de_op op_powW sem_powW ha hb
def wRevL (wa : WE) : WE := fun Γ Q X => wa Γ (fun r Γ1 => rdW r Γ1 fun d => isL d fun ds => Q (.ow (.list ds.reverse)) Γ1) X

theorem hu65 {A : Around} {k : Nat} (hr : Room k A) : A.units + 65 < cLine := Nat.lt_of_le_of_lt (Nat.add_le_add_left (by omega : 65 ≤ 16 * k + 200) _) (Nat.add_assoc _ _ _ ▸ hr.un)

def Gd (P : Program) (wd : World) (G : Gb) (mg : Str → Option Value) (base : Heap) (k : Nat) (x : Str) (fs : FS) (ps : List Str) (dvs : List V) : Prop :=
  ∃ (f : Addr) (fd : FuncData), mg x = some (.ref f) ∧ PySem.W.keepIn G.K (.ref f) = true ∧ FnOk P wd G.K mg base (L2N.CX P wd) k f fd ps (lift G fs) ∧ ∃ ds, Vals dvs ds ∧ Binds G.K fd ps ds
theorem Gd.mono {P : Program} {wd : World} {mg : Str → Option Value} {base : Heap} {k k' : Nat} {x : Str} {fs : FS} {ps : List Str} {dvs : List V} (h : Gd P wd G mg base k x fs ps dvs) (l : k ≤ k') : Gd P wd G mg base k' x fs ps dvs :=
  let ⟨f, fd, h1, h2, h3, h4⟩ := h
  ⟨f, fd, h1, h2, h3.mono l, h4⟩
section
variable {k : Nat} {x : Str} {fs : FS} {ps : List Str} {dvs : List V} {dvd : List D}
theorem de_callD (hK : X.K = G.K) (F : Gd X.prog X.w G X.mg X.base k x fs ps dvs) (hr : Room k X.A) (tk : L2N.Takes X W) (hd : ∀ Hi, Reps G.K Hi dvs dvd) (ha : DA X G W (e :: es) t w) (hg : Gl X x := by rfl) (hdb : (x == ("__debug__" : Str)) = false := by decide)
    (he : starEach (e :: es) X.env = (false, eval e X.env) :: starEach es X.env := by rfl) (hpl : (backTo pos (starEach es X.env)).any (·.1) = false := by rfl) :
    DE X G W (.Call (.Name x p) (e :: es) [] pos) (tCallSD (lift G fs) dvs (L2.WE W) t) (wCall fs dvd w) := by
  obtain ⟨f, fd, h1, h2, h3, ds, h4, h5⟩ := F
  rw [← hK] at h2 h5
  refine ⟨pe_callSD ?_ hr hg h1 h2 h5 h4 (L2N.passAt tk) ha.pe hdb he hpl, sim_callSD hd ha.sim⟩
  rw [hK]; exact h3
theorem de_call (hK : X.K = G.K) (F : Gd X.prog X.w G X.mg X.base k x fs ps []) (hr : Room k X.A) (tk : L2N.Takes X W) (ha : DA X G W (e :: es) t w) (hg : Gl X x := by rfl) (hdb : (x == ("__debug__" : Str)) = false := by decide)
    (he : starEach (e :: es) X.env = (false, eval e X.env) :: starEach es X.env := by rfl) (hpl : (backTo pos (starEach es X.env)).any (·.1) = false := by rfl) :
    DE X G W (.Call (.Name x p) (e :: es) [] pos) (tCallSD (lift G fs) [] (L2.WE W) t) (wCall fs [] w) := de_callD hK F hr tk (fun _ => .nil) ha hg hdb he hpl
theorem de_callIoD (hK : X.K = G.K) (i : Nat) {y : Str} (F : Gd X.prog X.w G X.mg X.base k x fs ps dvs) (hr : Room k X.A) (tk : L2N.Takes X W) (hd : ∀ Hi, Reps G.K Hi dvs dvd) (ha : DA X G W es t w) (hN : X.N[i]? = some y := by rfl) (hv : Vis X.env.scope y := by first | exact Or.inl rfl | exact Or.inr (Or.inl rfl) | exact Or.inr (Or.inr rfl))
    (hd2 : (y == ("__debug__" : Str)) = false := by decide) (hcd : (y == ("__classdict__" : Str)) = false := by decide) (hg : Gl X x := by rfl) (hdb : (x == ("__debug__" : Str)) = false := by decide)
    (he : starEach (.Name y p2 :: es) X.env = (false, eval (.Name y p2) X.env) :: starEach es X.env := by rfl) (hpl : (backTo pos (starEach es X.env)).any (·.1) = false := by rfl) :
    DE X G W (.Call (.Name x p) (.Name y p2 :: es) [] pos) (tCallSD (lift G fs) dvs (L2.WE W) (tCons (tVar i) t)) (wCallIo fs i dvd w) := by
  obtain ⟨f, fd, h1, h2, h3, ds, h4, h5⟩ := F
  rw [← hK] at h2 h5
  refine ⟨pe_callSD ?_ hr hg h1 h2 h5 h4 (L2N.passAt tk) (pa_cons (pe_var hN hv hd2 hcd) ha.pe he) hdb he hpl, sim_callIoSD i hd ha.sim⟩
  rw [hK]; exact h3
theorem de_callIo (hK : X.K = G.K) (i : Nat) {y : Str} (F : Gd X.prog X.w G X.mg X.base k x fs ps []) (hr : Room k X.A) (tk : L2N.Takes X W) (ha : DA X G W es t w) (hN : X.N[i]? = some y := by rfl) (hv : Vis X.env.scope y := by first | exact Or.inl rfl | exact Or.inr (Or.inl rfl) | exact Or.inr (Or.inr rfl))
    (hd2 : (y == ("__debug__" : Str)) = false := by decide) (hcd : (y == ("__classdict__" : Str)) = false := by decide) (hg : Gl X x := by rfl) (hdb : (x == ("__debug__" : Str)) = false := by decide)
    (he : starEach (.Name y p2 :: es) X.env = (false, eval (.Name y p2) X.env) :: starEach es X.env := by rfl) (hpl : (backTo pos (starEach es X.env)).any (·.1) = false := by rfl) :
    DE X G W (.Call (.Name x p) (.Name y p2 :: es) [] pos) (tCallSD (lift G fs) [] (L2.WE W) (tCons (tVar i) t)) (wCallIo fs i [] w) := de_callIoD hK i F hr tk (fun _ => .nil) ha hN hv hd2 hcd hg hdb he hpl
end
def flatR : R → Prop
  | .sh d => flatD d = true
  | .ow (.list l) => l.all flatD = true
  | _ => False
def wCallB (fs : FS) (dv : List D) (wa : WA) : WE := fun Γ Q X => wa Γ (fun rs Γ1 => rdAll rs Γ1 fun ds => fs none (ds ++ dv) (fun r _ => flatR r ∧ Q r Γ1) fun x _ => x.idx = none ∧ X x Γ1) X
theorem Rep.flat_any {K : Fg} {H H' : Hp} {v : V} {d : D} (h : Rep K H v d) (f : flatD d = true) : Rep K H' v d := by
  cases h with
  | non => exact .non
  | bl b => exact .bl b
  | int i => exact .int i
  | str x => exact .str x
  | _ => cases f
theorem Reps.flat_any {K : Fg} {H H' : Hp} : ∀ {vs : List V} {ds : List D}, Reps K H vs ds → ds.all flatD = true → Reps K H' vs ds
  | _, _, .nil, _ => .nil
  | _, _, .cons h r, f => by
    rw [List.all_cons, Bool.and_eq_true] at f
    exact .cons (h.flat_any f.1) (Reps.flat_any r f.2)
def wLenS (i : Nat) : WE := fun Γ Q _ => match Γ[i]? with
  | some (.op 0 (.list l)) => Q (.sh (.int (l.length : Int))) Γ
  | _ => False
def wIxS (i : Nat) (wa : WE) : WE := fun Γ Q X => isOwn Γ i ∧ wa Γ (fun r Γ1 => rdW r Γ1 fun d => isI d fun n => match Γ1[i]? with
  | some (.op 0 (.list l)) => (match atI l n with
    | some d => Q (.sh d) Γ1
    | none => False)
  | _ => False) X

variable {tg : Expr} {tI : TI} {wI : WI}
theorem di_list (hK : X.K = G.K) (h : DE X G W a ta wa) : DI X G W tg a (iList G.K ta) (wiL wa) := ⟨by rw [← hK]; exact pi_list h.pe, simi_list h.sim⟩
theorem di_str (h : DE X G W a ta wa) : DI X G W tg a (iStr ta) (wiS wa) := ⟨pi_str h.pe, simi_str h.sim⟩
theorem di_range1 (hm : X.mg "range" = none) (h : DA X G W [a] t w) (hg : Gl X "range" := by rfl) (hs : starEach [a] X.env = [(false, eval a X.env)] := by rfl) : DI X G W tg (.Call (.Name "range" p) [a] [] pos) (iRng1 t) (wiR1 w) := ⟨pi_range1 hg hm h.pe hs, simi_range1 h.sim⟩
theorem di_enum {kk : Nat} {elts : List Expr} (hK : X.K = G.K) (hm : X.mg "enumerate" = none) (h : DA X G W [a] t w) (hg : Gl X "enumerate" := by rfl) (hs : starEach [a] X.env = [(false, eval a X.env)] := by rfl) :
    DI X G W (.Tuple elts kk p2) (.Call (.Name "enumerate" p) [a] [] pos) (iEnum G.K t) (wiA enumD w) := ⟨by rw [← hK]; exact pi_enum hg hm h.pe hs, simi_enum h.sim⟩
theorem dg_name (i : Nat) {x : Str} (hN : X.N.Nodup) (hi : X.N[i]? = some x := by rfl) (hx : L2.Loc X.env.scope x := by first | exact .inl rfl | exact .inr rfl) (hf : X.fn x = true ∨ X.env.scope.names.lookup x = some .local := by first | exact .inl rfl | exact .inr rfl) :
    DG X G (.Name x pos) (gName i) (wgName i) := ⟨pg_name hN hi hx hf, simg_name i⟩
theorem dgs_nil : DGs X G [] gNil wgNil := ⟨pgs_nil, simg_nil⟩
variable {g : TG} {gs : TGs} {wg : WG} {wgs : WGs} {vs : List Nat}
theorem dgs_cons (h : DG X G e g wg) (h2 : DGs X G es gs wgs) (h3 : (assignEach (e :: es) X.env).map (·.2) = assign e X.env :: (assignEach es X.env).map (·.2) := by rfl) : DGs X G (e :: es) (gCons g gs) (wgCons wg wgs) := ⟨pgs_cons h.pe h2.pe h3, simg_cons h.sim h2.sim⟩
theorem dg_tup {k n : Nat} (hK : X.K = G.K) (hc : X.calm = true) (h : DGs X G es gs wgs) (h1 : (assignEach es X.env).length = n := by rfl) (h2 : (assignEach es X.env).findIdx? (·.1) = none := by rfl) : DG X G (.Tuple es k pos) (gTup G.K n gs) (wgTup n wgs) :=
  ⟨by rw [← hK]; exact pg_tup hc h.pe h1 h2, simg_tup h.sim⟩
theorem dgw_name (i : Nat) {x : Str} (hN : X.N.Nodup) (hm : i ∈ vs := by decide) (hi : X.N[i]? = some x := by rfl) (hx : L2.Loc X.env.scope x := by first | exact .inl rfl | exact .inr rfl) (hf : X.fn x = true ∨ X.env.scope.names.lookup x = some .local := by first | exact .inl rfl | exact .inr rfl) :
    DGw X G vs (.Name x pos) (gName i) (wgName i) := ⟨pg_name hN hi hx hf, simgw_name i hm⟩
theorem dgsw_nil : DGsw X G vs [] gNil wgNil := ⟨pgs_nil, simgw_nil⟩
theorem dgsw_cons (h : DGw X G vs e g wg) (h2 : DGsw X G vs es gs wgs) (h3 : (assignEach (e :: es) X.env).map (·.2) = assign e X.env :: (assignEach es X.env).map (·.2) := by rfl) : DGsw X G vs (e :: es) (gCons g gs) (wgCons wg wgs) := ⟨pgs_cons h.pe h2.pe h3, simgw_cons h.sim h2.sim⟩
theorem dgw_tup {k n : Nat} (hK : X.K = G.K) (hc : X.calm = true) (h : DGsw X G vs es gs wgs) (h1 : (assignEach es X.env).length = n := by rfl) (h2 : (assignEach es X.env).findIdx? (·.1) = none := by rfl) : DGw X G vs (.Tuple es k pos) (gTup G.K n gs) (wgTup n wgs) :=
  ⟨by rw [← hK]; exact pg_tup hc h.pe h1 h2, simgw_tup h.sim⟩
theorem dts_nil : DTs X G W [] tYes wYes := ⟨pts_nil, sim_yes⟩
theorem dts_one (h : DT X G W a tt wt) : DTs X G W [a] tt wt := ⟨pts_one h.pe, h.sim⟩
abbrev Blk (X : Cx) (scope : Scope) (s : Shared) (H : Hp) (C : Addr) (cl : List (Str × Addr)) (fp : List Addr) : Cx := X.blk s H scope (compEnvC scope cl C X.env) fp
variable {ifs : List Expr} {scope : Scope} {own : List (Str × Nat)}
theorem de_lc (hc : X.calm = true) (hN : X.N.Nodup) (hi : DI X G W tg a tI wI) (ok : BlkOk X.N X.env.scope scope own) (nd : (own.map (·.2)).Nodup)
    (hg : ∀ s H C cl fp, DGw (Blk X scope s H C cl fp) G (own.map (·.2)) tg g wg) (ht : ∀ s H C cl fp, DTs (Blk X scope s H C cl fp) G noW ifs tt wt) (he : ∀ s H C cl fp, DE (Blk X scope s H C cl fp) G noW e te we) (hs : ∀ x, foldedSetIterable a X.env x = pure x := by intro _; rfl) :
    DE X G W (.ListComp e [⟨tg, a, ifs, 0⟩] scope pos) (tLc tI g tt te (own.map (·.2))) (wLc (own.map (·.2)) wI wg wt we) :=
  ⟨pe_lc hc hN hi.pe ok (fun s H C cl fp => (hg s H C cl fp).pe) (fun s H C cl fp => (ht s H C cl fp).pe) (fun s H C cl fp => (he s H C cl fp).pe) hs,
    sim_lc nd hi.sim (hg X.s_0 X.H_0 0 [] []).sim (ht X.s_0 X.H_0 0 [] []).sim (he X.s_0 X.H_0 0 [] []).sim⟩
theorem ds_setLc {y : Str} {py spos : Pos} (i : Nat) (hc : X.calm = true) (hN : X.N.Nodup) (hi : DI X G W tg a tI wI) (ok : BlkOk X.N X.env.scope scope own) (nd : (own.map (·.2)).Nodup)
    (hg : ∀ s H C cl fp, DGw (Blk X scope s H C cl fp) G (own.map (·.2)) tg g wg) (ht : ∀ s H C cl fp, DTs (Blk X scope s H C cl fp) G noW ifs tt wt) (he : ∀ s H C cl fp, DE (Blk X scope s H C cl fp) G noW e te we)
    (hsw : swapsWith (.ListComp e [⟨tg, a, ifs, 0⟩] scope pos) (some (.Name y py)) spos.line X.env = pure true) (hy : X.N[i]? = some y := by rfl) (hyl : X.env.scope.names.lookup y = some .local := by rfl) (hs : ∀ x, foldedSetIterable a X.env x = pure x := by intro _; rfl) :
    DS X G W (.Assign [.Name y py] (.ListComp e [⟨tg, a, ifs, 0⟩] scope pos) spos) (tAsg (tLc tI g tt te (own.map (·.2))) (gName i)) (wSet i (wLc (own.map (·.2)) wI wg wt we)) :=
  ⟨ps_setLc hc hN hy hyl hsw hi.pe ok (fun s H C cl fp => (hg s H C cl fp).pe) (fun s H C cl fp => (ht s H C cl fp).pe) (fun s H C cl fp => (he s H C cl fp).pe) hs,
    sim_set i (sim_lc nd hi.sim (hg X.s_0 X.H_0 0 [] []).sim (ht X.s_0 X.H_0 0 [] []).sim (he X.s_0 X.H_0 0 [] []).sim)⟩
variable {st : Stmt} {sts b1 b2 : List Stmt} {ts us : TS} {ws wu2 : WS}
theorem db_nil : DB X G W [] tNext wNext := ⟨pss_nil, sim_next⟩
theorem db_one (h : DS X G W st ts ws) : DB X G W [st] ts ws := ⟨pss_one h.pe, h.sim⟩
theorem db_cons (h : DS X G W st ts ws) (h2 : DB X G W sts us wu2) : DB X G W (st :: sts) (tSeq ts us) (wSeq ws wu2) := ⟨pss_cons h.pe h2.pe, sim_seq h.sim h2.sim⟩
theorem ds_expr (h : DE X G W e te we) (hs : swapsWith e none pos.line X.env = pure false := by rfl) : DS X G W (.Expr e pos) (tDrop te) (wDrop we) := ⟨ps_expr h.pe hs, sim_drop h.sim⟩
theorem ds_ret (h : DE X G W e te we) : DS X G W (.Return (some e) pos) (tRet te) (wRet we) := ⟨ps_ret h.pe, sim_ret h.sim⟩
theorem ds_if (hc : DT X G W c tt wt) (h1 : DB X G W b1 ts ws) (h2 : DB X G W b2 us wu2) : DS X G W (.If c b1 b2 pos) (tIfS tt ts us) (wIfS wt ws wu2) := ⟨ps_if hc.pe h1.pe h2.pe, sim_ifS hc.sim h1.sim h2.sim⟩
theorem ds_set (i : Nat) {x : Str} (hN : X.N.Nodup) (he : DE X G W e te we) (hi : X.N[i]? = some x := by rfl) (hx : L2.Loc X.env.scope x := by first | exact .inl rfl | exact .inr rfl) (hs : swapsWith e (some (.Name x pos')) pos.line X.env = pure false := by rfl)
    (hf : X.fn x = true ∨ X.env.scope.names.lookup x = some .local := by first | exact .inl rfl | exact .inr rfl) : DS X G W (.Assign [.Name x pos'] e pos) (tAsg te (gName i)) (wSet i we) := ⟨ps_set hN hi hx he.pe hs hf, sim_set i he.sim⟩
theorem ds_asg (he : DE X G W e te we) (hg : DG X G tg g wg) (hs : swapsWithSole [tg] e pos.line X.env = pure false := by rfl) (hw : swappedStores [tg] e X.env = pure none := by rfl) (ha : (assignEach [tg] X.env).map (·.2) = [assign tg X.env] := by rfl) :
    DS X G W (.Assign [tg] e pos) (tAsg te g) (wAsg we wg) := ⟨ps_asg he.pe hg.pe hs hw ha, sim_asg he.sim hg.sim⟩
theorem ds_par (i j : Nat) {x y : Str} {px py pt pt2 : Pos} {kt k2 : Nat} {wsl : WSl} (hc : X.calm = true) (hN : X.N.Nodup) (ha : DSl X G W [a, b] t wsl) (hij : i ≠ j := by decide) (hi : X.N[i]? = some x := by rfl) (hj : X.N[j]? = some y := by rfl)
    (hx : X.env.scope.names.lookup x = some .local := by rfl) (hy : X.env.scope.names.lookup y = some .local := by rfl) (hsw : swappedStores [.Tuple [.Name x px, .Name y py] kt pt] (.Tuple [a, b] k2 pt2) X.env = pure (some [x, y]) := by rfl)
    (hs : swapsWithSole [.Tuple [.Name x px, .Name y py] kt pt] (.Tuple [a, b] k2 pt2) pos.line X.env = pure false := by rfl) :
    DS X G W (.Assign [.Tuple [.Name x px, .Name y py] kt pt] (.Tuple [a, b] k2 pt2) pos) (tPar i j t) (wPar [i, j] wsl) := ⟨ps_par hc hN hi hj hij hx hy ha.pe hsw hs, sim_par ha.sim⟩
theorem ds_par3 (i j l : Nat) {x y z : Str} {px py pz pt pt2 : Pos} {kt k2 : Nat} {wsl : WSl} (hc : X.calm = true) (hN : X.N.Nodup) (ha : DSl X G W [a, b, c] t wsl) (hij : i ≠ j := by decide) (hil : i ≠ l := by decide) (hjl : j ≠ l := by decide) (hi : X.N[i]? = some x := by rfl) (hj : X.N[j]? = some y := by rfl) (hl : X.N[l]? = some z := by rfl)
    (hx : X.env.scope.names.lookup x = some .local := by rfl) (hy : X.env.scope.names.lookup y = some .local := by rfl) (hz : X.env.scope.names.lookup z = some .local := by rfl) (hsw : swappedStores [.Tuple [.Name x px, .Name y py, .Name z pz] kt pt] (.Tuple [a, b, c] k2 pt2) X.env = pure (some [x, y, z]) := by rfl)
    (hs : swapsWithSole [.Tuple [.Name x px, .Name y py, .Name z pz] kt pt] (.Tuple [a, b, c] k2 pt2) pos.line X.env = pure false := by rfl) :
    DS X G W (.Assign [.Tuple [.Name x px, .Name y py, .Name z pz] kt pt] (.Tuple [a, b, c] k2 pt2) pos) (tPar3 i j l t) (wPar [i, j, l] wsl) := ⟨ps_par3 hc hN hi hj hl hij hil hjl hx hy hz ha.pe hsw hs, sim_par3 ha.sim⟩
theorem pg_names {is : List Nat} {n k k2 : Nat} {pt2 : Pos} {wsl : WSl} (hK : X.K = G.K) (hc : X.calm = true) (ha : DSl X G W es t wsl) {ts' : List Expr} (hg : PGs X ts' (gNames is)) (hn : is.length = n) (hs : n ≤ 1000)
    (h1 : (assignEach ts' X.env).length = n := by rfl) (h2 : (assignEach ts' X.env).findIdx? (·.1) = none := by rfl)
    (hsw : swapsWithSole [.Tuple ts' k p2] (.Tuple es k2 pt2) pos.line X.env = pure false := by rfl) (hw : swappedStores [.Tuple ts' k p2] (.Tuple es k2 pt2) X.env = pure none := by rfl) (hq : (assignEach [.Tuple ts' k p2] X.env).map (·.2) = [assign (.Tuple ts' k p2) X.env] := by rfl) :
    DS X G W (.Assign [.Tuple ts' k p2] (.Tuple es k2 pt2) pos) (tAsg (tTup t) (gTup G.K n (gNames is))) (wPar is wsl) :=
  ⟨ps_asg (pe_tup ha.pe) (by rw [← hK]; exact pg_tup hc hg h1 h2) hsw hw hq, sim_parT hn hs ha.sim⟩
theorem ds_for (hp : PassesOwn (model X.prog X.w) X.A X.env X.xe) (hc : X.calm = true) (hi : DI X G W tg a tI wI) (hg : DG X G tg g wg) (hb : DB X G W b1 ts ws) (hs : ∀ x, foldedSetIterable a X.env x = pure x := by intro _; rfl) :
    DS X G W (.For tg a b1 [] pos) (tFor tI g ts) (wFor wI wg ws) := ⟨ps_for hp hc hi.pe hg.pe hb.pe hs, sim_for hi.sim hg.sim hb.sim⟩
theorem ds_dput (hu : X.A.units + 65 < cLine) (i : Nat) {x : Str} {k : Expr} {px ps' : Pos} (hk : DE X G W k tb wb) (hv : DE X G W a ta wa) (hN : X.N[i]? = some x := by rfl) (hvis : Vis X.env.scope x := by first | exact Or.inl rfl | exact Or.inr (Or.inl rfl) | exact Or.inr (Or.inr rfl))
    (hd : (x == ("__debug__" : Str)) = false := by decide) (hcd : (x == ("__classdict__" : Str)) = false := by decide) (hs : swapsWith a (some (.Subscript (.Name x px) k ps')) pos.line X.env = pure false := by rfl) :
    DS X G W (.Assign [.Subscript (.Name x px) k ps'] a pos) (sDPut (tVar i) tb ta) (wDPut i wb wa) := ⟨ps_dput (by omega) (pe_var hN hvis hd hcd) hk.pe hv.pe hs, sim_dput i hk.sim hv.sim⟩
theorem ds_lput (i : Nat) {x : Str} {k : Expr} {px ps' : Pos} (hk : DE X G W k tb wb) (hv : DE X G W a ta wa) (hN : X.N[i]? = some x := by rfl) (hvis : Vis X.env.scope x := by first | exact Or.inl rfl | exact Or.inr (Or.inl rfl) | exact Or.inr (Or.inr rfl))
    (hd : (x == ("__debug__" : Str)) = false := by decide) (hcd : (x == ("__classdict__" : Str)) = false := by decide)
    (hq : ∀ v, assign (.Subscript (.Name x px) k ps') X.env v = (do let ov ← holding [v] (eval (.Name x px) X.env); let iv ← holding [v, ov] (eval k X.env); standAt ps'; holding [v, ov, iv] (setItem ov iv v); release [v, ov, iv] []) := by intro _; rfl)
    (hs : swapsWithSole [.Subscript (.Name x px) k ps'] a pos.line X.env = pure false := by rfl) (hw : swappedStores [.Subscript (.Name x px) k ps'] a X.env = pure none := by rfl) (ha : (assignEach [.Subscript (.Name x px) k ps'] X.env).map (·.2) = [assign (.Subscript (.Name x px) k ps') X.env] := by rfl) :
    DS X G W (.Assign [.Subscript (.Name x px) k ps'] a pos) (tAsg ta (gSub (tVar i) tb rSetL)) (wLPut i wb wa) := ⟨ps_asg hv.pe (pg_sub (pe_var hN hvis hd hcd) hk.pe set_list hq) hs hw ha, sim_lput i hk.sim hv.sim⟩
end
end VL

set_option Elab.async false
set_option linter.all false
set_option maxRecDepth 100000
set_option maxHeartbeats 2000000
namespace SC
open PySem PySem.Spec PyProof.Rows L2

section
variable {X : Cx}
end
end SC

set_option Elab.async false
set_option linter.all false
set_option maxRecDepth 100000
namespace VL
open PySem L2
variable {X : Cx} {G : Gb}
end VL

set_option Elab.async false
set_option linter.all false
set_option maxRecDepth 100000
namespace VL
open PySem L2

def ScrOk (K : Fg) (t : Nat) (d : D) (H : Hp) (p : Addr) (fp : List Addr) : Prop := t % 10 = 0 ∧ ∃ ns : List Int, d = .list (ns.map .int) ∧
  ((fp = [] ∧ ∃ (o : Obj) (its : Array Value) (n : Nat), K.lookup p = some o ∧ o.cls = .type "list" ∧ o.dict = none ∧ o.data = .seq its n ∧ its.size ≤ sizeLine ∧ Vals (ns.map V.int) its.toList) ∨ (fp = [p] ∧ Rd H p (.lst (ns.map V.int))))
def DeckOk (t : Nat) (d : D) (H : Hp) (p : Addr) (fp : List Addr) : Prop := t % 10 = 1 ∧ ∃ (n : Nat) (q : Addr) (ys : List Addr) (c : Int), d = .int (n : Int) ∧ fp = p :: q :: ys ∧ p ≠ q ∧ p ∉ ys ∧ q ∉ ys ∧
  H p = some (.lst [.ref q, .int c]) ∧ 0 ≤ c ∧ c ≤ (n : Int) ∧ H q = some (.lst (ys.map .ref)) ∧ ys ≠ [] ∧ ys.length ≤ 63 ∧ ∀ y ∈ ys, ∃ a f k : Int, H y = some (.lst [.int a, .int f, .int k]) ∧ 0 ≤ k ∧ k ≤ 3000 + (n : Int)
def KpD (cls : Value) (d : Option Addr) (a : Addr) : HO := .ext fun h => ∃ (oe : Obj) (vs : Array Value), h.get? a = some oe ∧ L2N.Zn cls d oe ∧ oe.data = .fields vs
abbrev KpO (cls : Value) (a : Addr) : HO := KpD cls none a
theorem kpD_ok {P : Program} {w : World} {H : Hp} {h : Heap} {a : Addr} {cls : Value} {dx : Option Addr} {oe : Obj} {vs : Array Value} (e : h.get? a = some oe) (z : L2N.Zn cls dx oe) (d : oe.data = .fields vs) : ObjOk P w H h a (KpD cls dx a) :=
  ⟨⟨oe, vs, e, z, d⟩, ⟨oe, e⟩, fun _ _ ⟨u, v, q, r⟩ k => ⟨u, v, k u q, r⟩⟩
def KepOk (K : Fg) (t : Nat) (d : D) (H : Hp) (p : Addr) (fp : List Addr) : Prop := t % 10 = 2 ∧ ∃ nm : Str, d = .str nm ∧ fp = [p] ∧ H p = some (KpO (.ref (He.ga K nm)) p)
theorem ScrOk.loc {K : Fg} {t : Nat} {d : D} {H H' : Hp} {p : Addr} {fp : List Addr} (h : ScrOk K t d H p fp) (e : ∀ a ∈ fp, H' a = H a) : ScrOk K t d H' p fp := by
  obtain ⟨ht, ns, hd, h⟩ := h
  refine ⟨ht, ns, hd, ?_⟩
  rcases h with h | ⟨hf, h⟩
  · exact .inl h
  · refine .inr ⟨hf, ?_⟩
    have : H' p = H p := e p (by rw [hf]; simp)
    unfold Rd at h ⊢
    rw [this]
    exact h
theorem ScrOk.trk {K : Fg} {t : Nat} {d : D} {H : Hp} {p : Addr} {fp : List Addr} (h : ScrOk K t d H p fp) : ∀ a ∈ fp, ∃ o, H a = some o := by
  intro a ha
  obtain ⟨_, ns, _, h⟩ := h
  rcases h with ⟨hf, _⟩ | ⟨hf, h⟩
  · rw [hf] at ha; cases ha
  · rw [hf] at ha
    have : a = p := by simpa using ha
    subst this
    rcases h with h | ⟨o, h⟩
    · exact ⟨_, h⟩
    · exact ⟨_, h⟩
theorem DeckOk.loc {t : Nat} {d : D} {H H' : Hp} {p : Addr} {fp : List Addr} (h : DeckOk t d H p fp) (e : ∀ a ∈ fp, H' a = H a) : DeckOk t d H' p fp := by
  obtain ⟨ht, n, q, ys, c, hd, hf, h1, h2, h3, h4, h5, h6, h7, h8, h9, h10⟩ := h
  subst hf
  refine ⟨ht, n, q, ys, c, hd, rfl, h1, h2, h3, ?_, h5, h6, ?_, h8, h9, fun y hy => ?_⟩
  · rw [e p (by simp)]; exact h4
  · rw [e q (by simp)]; exact h7
  · rw [e y (by simp [hy])]; exact h10 y hy
theorem DeckOk.trk {t : Nat} {d : D} {H : Hp} {p : Addr} {fp : List Addr} (h : DeckOk t d H p fp) : ∀ a ∈ fp, ∃ o, H a = some o := by
  intro a ha
  obtain ⟨ht, n, q, ys, c, hd, hf, h1, h2, h3, h4, h5, h6, h7, h8, h9, h10⟩ := h
  subst hf
  simp only [List.mem_cons] at ha
  rcases ha with rfl | rfl | ha
  · exact ⟨_, h4⟩
  · exact ⟨_, h7⟩
  · obtain ⟨_, _, _, h, _⟩ := h10 a ha
    exact ⟨_, h⟩
theorem KepOk.loc {K : Fg} {t : Nat} {d : D} {H H' : Hp} {p : Addr} {fp : List Addr} (h : KepOk K t d H p fp) (e : ∀ a ∈ fp, H' a = H a) : KepOk K t d H' p fp := by
  obtain ⟨ht, nm, hd, hf, h1⟩ := h
  exact ⟨ht, nm, hd, hf, by rw [e p (by rw [hf]; simp)]; exact h1⟩
theorem KepOk.trk {K : Fg} {t : Nat} {d : D} {H : Hp} {p : Addr} {fp : List Addr} (h : KepOk K t d H p fp) : ∀ a ∈ fp, ∃ o, H a = some o := by
  intro a ha
  obtain ⟨ht, nm, hd, hf, h1⟩ := h
  rw [hf] at ha
  have : a = p := by simpa using ha
  subst this
  exact ⟨_, h1⟩
inductive Ix1 : V → D → Prop
  | non : Ix1 .non .none
  | int (i : Int) : Ix1 (.int i) (.int i)
def KxiOk (K : Fg) (t : Nat) (d : D) (Hi H : Hp) (p : Addr) (fp : List Addr) : Prop := t % 10 = 6 ∧ ∃ (nm : Str) (dx : Addr) (v : V) (dv : D), d = .tuple [.str nm, dv] ∧ fp = [p] ∧ H p = some (KpD (.ref (He.ga K nm)) (some dx) p) ∧ Hi dx = some (.xd [(("index" : Str), v)]) ∧ Ix1 v dv
theorem KxiOk.loc {K : Fg} {t : Nat} {d : D} {Hi Hi' H H' : Hp} {p : Addr} {fp : List Addr} (h : KxiOk K t d Hi H p fp) (ex : Ext Hi Hi') (e : ∀ a ∈ fp, H' a = H a) : KxiOk K t d Hi' H' p fp := by
  obtain ⟨ht, nm, dx, v, dv, hd, hf, h1, h2, h3⟩ := h
  exact ⟨ht, nm, dx, v, dv, hd, hf, by rw [e p (by rw [hf]; simp)]; exact h1, ex _ _ h2, h3⟩
theorem KxiOk.trk {K : Fg} {t : Nat} {d : D} {Hi H : Hp} {p : Addr} {fp : List Addr} (h : KxiOk K t d Hi H p fp) : ∀ a ∈ fp, ∃ o, H a = some o := by
  intro a ha
  obtain ⟨ht, nm, dx, v, dv, hd, hf, h1, _⟩ := h
  rw [hf] at ha
  have : a = p := by simpa using ha
  subst this
  exact ⟨_, h1⟩
theorem KxiOk.swp {K : Fg} {t : Nat} {d : D} {Hi H H' : Hp} {p a : Addr} {fp : List Addr} {u u' : HO} {kvs : List (Key × V)} (h : KxiOk K t d Hi H p fp) (ha : Hi a = some u) (e : Dual kvs u u') (k : ∀ b ∈ fp, H' b = H b) : KxiOk K t d (VL.swp Hi a u') H' p fp := by
  obtain ⟨ht, nm, dx, v, dv, hd, hf, h1, h2, h3⟩ := h
  have : dx ≠ a := fun z => by
    rw [z, ha] at h2
    injection h2 with h2
    rcases e.1 with q | ⟨o, q⟩
    · rw [q] at h2; cases h2
    · rw [q] at h2; cases h2
  exact ⟨ht, nm, dx, v, dv, hd, hf, by rw [k p (by rw [hf]; simp)]; exact h1, by rw [swp_ne this]; exact h2, h3⟩
def spec : Nat → List (Str × Bool)
  | 3 => [("own_score", false), ("elapsed", false), ("operations", true)]
  | 4 => [("scores", true)]
  | _ => []
def clsN : Nat → Str
  | 3 => "Player"
  | 4 => "Console"
  | _ => ""
inductive Fds (K : Fg) (Hi H : Hp) : List (Str × Bool) → List (Str × V) → List D → List Addr → Prop
  | nil {sp : List (Str × Bool)} : Fds K Hi H sp [] [] []
  | sh {f : Str} {v : V} {d : D} {sp : List (Str × Bool)} {fs : List (Str × V)} {ds : List D} {l : List Addr} : Rep K Hi v d → Fds K Hi H sp fs ds l → Fds K Hi H ((f, false) :: sp) ((f, v) :: fs) (d :: ds) l
  | ow {f : Str} {q : Addr} {d : D} {sp : List (Str × Bool)} {fs : List (Str × V)} {ds : List D} {l : List Addr} : Own K Hi H q d → q ∉ l → Fds K Hi H sp fs ds l → Fds K Hi H ((f, true) :: sp) ((f, .ref q) :: fs) (d :: ds) (q :: l)
theorem Fds.to {K : Fg} {Hi Hi' H H' : Hp} (e : Ext Hi Hi') : ∀ {sp : List (Str × Bool)} {fs : List (Str × V)} {ds : List D} {l : List Addr}, Fds K Hi H sp fs ds l → (∀ a ∈ l, H' a = H a) → Fds K Hi' H' sp fs ds l
  | _, _, _, _, .nil, _ => .nil
  | _, _, _, _, .sh r t, k => .sh (r.mono e) (Fds.to e t k)
  | _, _, _, _, .ow o n t, k => .ow (o.to e (k _ List.mem_cons_self)) n (Fds.to e t fun a ha => k a (List.mem_cons_of_mem _ ha))
theorem Fds.trk {K : Fg} {Hi H : Hp} : ∀ {sp : List (Str × Bool)} {fs : List (Str × V)} {ds : List D} {l : List Addr}, Fds K Hi H sp fs ds l → ∀ a ∈ l, ∃ o, H a = some o
  | _, _, _, _, .nil, _, ha => nomatch ha
  | _, _, _, _, .sh _ t, a, ha => Fds.trk t a ha
  | _, _, _, _, .ow o _ t, a, ha => by
    rcases List.mem_cons.mp ha with rfl | ha
    · exact o.trk
    · exact Fds.trk t a ha
structure InsAt (K : Fg) (t : Nat) (Hi H : Hp) (p dx : Addr) (fs : List (Str × V)) (ds : List D) (l : List Addr) : Prop where
  ins : H p = some (.ins (He.ga K (clsN t)) dx fs)
  own : H dx = some (.own p)
  fds : Fds K Hi H (spec t) fs ds l
  n1 : p ≠ dx
  n2 : p ∉ l
  n3 : dx ∉ l
  cls : Cls K (He.ga K (clsN t))
  noat : ∀ f ∈ (spec t).map (·.1), NoAttr K (He.ga K (clsN t)) f
def InsOk (K : Fg) (t : Nat) (d : D) (Hi H : Hp) (p : Addr) (fp : List Addr) : Prop := (t % 10 = 3 ∨ t % 10 = 4) ∧ ∃ (dx : Addr) (fs : List (Str × V)) (ds : List D) (l : List Addr), d = .tuple ds ∧ fp = p :: dx :: l ∧ InsAt K (t % 10) Hi H p dx fs ds l
theorem InsOk.loc {K : Fg} {t : Nat} {d : D} {Hi Hi' H H' : Hp} {p : Addr} {fp : List Addr} (h : InsOk K t d Hi H p fp) (e : Ext Hi Hi') (k : ∀ a ∈ fp, H' a = H a) : InsOk K t d Hi' H' p fp := by
  obtain ⟨ht, dx, fs, ps, l, hd, hf, I⟩ := h
  subst hf
  exact ⟨ht, dx, fs, ps, l, hd, rfl, by rw [k p (by simp)]; exact I.ins, by rw [k dx (by simp)]; exact I.own, I.fds.to e fun a ha => k a (by simp [ha]), I.n1, I.n2, I.n3, I.cls, I.noat⟩
theorem InsOk.trk {K : Fg} {t : Nat} {d : D} {Hi H : Hp} {p : Addr} {fp : List Addr} (h : InsOk K t d Hi H p fp) : ∀ a ∈ fp, ∃ o, H a = some o := by
  intro a ha
  obtain ⟨ht, dx, fs, ps, l, hd, hf, I⟩ := h
  subst hf
  simp only [List.mem_cons] at ha
  rcases ha with rfl | rfl | ha
  · exact ⟨_, I.ins⟩
  · exact ⟨_, I.own⟩
  · exact I.fds.trk a ha
theorem Own.swp {K : Fg} {Hi H H' : Hp} {p a : Addr} {d : D} {u u' : HO} {kvs : List (Key × V)} (h : Own K Hi H p d) (ha : Hi a = some u) (e : Dual kvs u u') (k : H' p = H p) : Own K (VL.swp Hi a u') H' p d := by
  cases h with
  | lst h r => exact .lst (by rw [k]; exact h) (Reps.swp ha e r)
  | dct h r => exact .dct (by rw [k]; exact h) (RepKV.swp ha e r)
theorem Fds.swp {K : Fg} {Hi H H' : Hp} {a : Addr} {u u' : HO} {kvs : List (Key × V)} (ha : Hi a = some u) (e : Dual kvs u u') : ∀ {sp : List (Str × Bool)} {fs : List (Str × V)} {ds : List D} {l : List Addr}, Fds K Hi H sp fs ds l → (∀ b ∈ l, H' b = H b) → Fds K (VL.swp Hi a u') H' sp fs ds l
  | _, _, _, _, .nil, _ => .nil
  | _, _, _, _, .sh r t, k => .sh (Rep.swp ha e r) (Fds.swp ha e t k)
  | _, _, _, _, .ow o n t, k => .ow (o.swp ha e (k _ List.mem_cons_self)) n (Fds.swp ha e t fun b hb => k b (List.mem_cons_of_mem _ hb))
theorem InsOk.swp {K : Fg} {t : Nat} {d : D} {Hi H H' : Hp} {p a : Addr} {fp : List Addr} {u u' : HO} {kvs : List (Key × V)} (h : InsOk K t d Hi H p fp) (ha : Hi a = some u) (e : Dual kvs u u') (k : ∀ b ∈ fp, H' b = H b) : InsOk K t d (VL.swp Hi a u') H' p fp := by
  obtain ⟨ht, dx, fs, ps, l, hd, hf, I⟩ := h
  subst hf
  exact ⟨ht, dx, fs, ps, l, hd, rfl, by rw [k p (by simp)]; exact I.ins, by rw [k dx (by simp)]; exact I.own, I.fds.swp ha e fun a ha => k a (by simp [ha]), I.n1, I.n2, I.n3, I.cls, I.noat⟩
inductive NewT (K : Fg) (Hi H : Hp) : V → D → List Addr → Prop
  | int (i : Int) : NewT K Hi H (.int i) (.int i) []
  | str (x : Str) : NewT K Hi H (.str x) (.str x) []
  | lst {p : Addr} {xs : List V} {ds : List D} : H p = some (.lst xs) → Reps K Hi xs ds → NewT K Hi H (.ref p) (.list ds) [p]
  | two {p : Addr} {v w : V} {dv dw : D} {l1 l2 : List Addr} : H p = some (.tup [v, w]) → NewT K Hi H v dv l1 → NewT K Hi H w dw l2 → p ∉ l1 → p ∉ l2 → (∀ a ∈ l1, a ∉ l2) → NewT K Hi H (.ref p) (.tuple [dv, dw]) (p :: (l1 ++ l2))
theorem NewT.loc {K : Fg} {Hi Hi' H H' : Hp} {v : V} {d : D} {l : List Addr} (h : NewT K Hi H v d l) (e : Ext Hi Hi') (k : ∀ a ∈ l, H' a = H a) : NewT K Hi' H' v d l := by
  induction h with
  | int i => exact .int i
  | str x => exact .str x
  | lst h r => exact .lst (by rw [k _ (by simp)]; exact h) (r.mono e)
  | two h _ _ n1 n2 n3 i1 i2 => exact .two (by rw [k _ (by simp)]; exact h) (i1 fun a ha => k a (by simp [ha])) (i2 fun a ha => k a (by simp [ha])) n1 n2 n3
theorem NewT.trk {K : Fg} {Hi H : Hp} {v : V} {d : D} {l : List Addr} (h : NewT K Hi H v d l) : ∀ a ∈ l, ∃ o, H a = some o := by
  induction h with
  | int i => exact fun a ha => nomatch ha
  | str x => exact fun a ha => nomatch ha
  | lst h r =>
    intro a ha
    rw [List.mem_singleton.mp ha]
    exact ⟨_, h⟩
  | two h _ _ n1 n2 n3 i1 i2 =>
    intro a ha
    simp only [List.mem_cons, List.mem_append] at ha
    rcases ha with rfl | ha | ha
    · exact ⟨_, h⟩
    · exact i1 a ha
    · exact i2 a ha
theorem NewT.swp {K : Fg} {Hi H H' : Hp} {v : V} {d : D} {l : List Addr} {a : Addr} {u u' : HO} {kvs : List (Key × V)} (h : NewT K Hi H v d l) (ha : Hi a = some u) (e : Dual kvs u u') (k : ∀ b ∈ l, H' b = H b) : NewT K (VL.swp Hi a u') H' v d l := by
  induction h with
  | int i => exact .int i
  | str x => exact .str x
  | lst h r => exact .lst (by rw [k _ (by simp)]; exact h) (Reps.swp ha e r)
  | two h _ _ n1 n2 n3 i1 i2 => exact .two (by rw [k _ (by simp)]; exact h) (i1 fun a ha => k a (by simp [ha])) (i2 fun a ha => k a (by simp [ha])) n1 n2 n3
theorem NewT.rep {K : Fg} {Hi H : Hp} {v : V} {d : D} {l : List Addr} (h : NewT K Hi H v d l) (e : Ext Hi H) : Rep K H v d := by
  induction h with
  | int i => exact .int i
  | str x => exact .str x
  | lst h r => exact .lst h (r.mono e)
  | two h _ _ n1 n2 n3 i1 i2 => exact .tup h (.cons i1 (.cons i2 .nil))
def StaOk (K : Fg) (t : Nat) (d : D) (Hi H : Hp) (p : Addr) (fp : List Addr) : Prop := t % 10 = 5 ∧ NewT K Hi H (.ref p) d fp
theorem StaOk.loc {K : Fg} {t : Nat} {d : D} {Hi Hi' H H' : Hp} {p : Addr} {fp : List Addr} (h : StaOk K t d Hi H p fp) (e : Ext Hi Hi') (k : ∀ a ∈ fp, H' a = H a) : StaOk K t d Hi' H' p fp := ⟨h.1, h.2.loc e k⟩
theorem StaOk.trk {K : Fg} {t : Nat} {d : D} {Hi H : Hp} {p : Addr} {fp : List Addr} (h : StaOk K t d Hi H p fp) : ∀ a ∈ fp, ∃ o, H a = some o := h.2.trk
theorem StaOk.swp {K : Fg} {t : Nat} {d : D} {Hi H H' : Hp} {p a : Addr} {fp : List Addr} {u u' : HO} {kvs : List (Key × V)} (h : StaOk K t d Hi H p fp) (ha : Hi a = some u) (e : Dual kvs u u') (k : ∀ b ∈ fp, H' b = H b) : StaOk K t d (VL.swp Hi a u') H' p fp := ⟨h.1, h.2.swp ha e k⟩
def OpS (K : Fg) : OpSem where
  ok := fun t d Hi H p fp => ScrOk K t d H p fp ∨ DeckOk t d H p fp ∨ KepOk K t d H p fp ∨ InsOk K t d Hi H p fp ∨ StaOk K t d Hi H p fp ∨ KxiOk K t d Hi H p fp
  loc := fun h e k => h.imp (fun h => h.loc k) fun h => h.imp (fun h => h.loc k) fun h => h.imp (fun h => h.loc k) fun h => h.imp (fun h => h.loc e k) fun h => h.imp (fun h => h.loc e k) fun h => h.loc e k
  trk := fun h => by
    rcases h with h | h | h | h | h | h
    · exact h.trk
    · exact h.trk
    · exact h.trk
    · exact h.trk
    · exact h.trk
    · exact h.trk
  swp := fun {t d Hi H p fp a u u' kvs} h ha e n => by
    have k : ∀ b ∈ fp, VL.swp H a u' b = H b := fun b hb => swp_ne (n b hb)
    rcases h with h | h | h | h | h | h
    · exact .inl (h.loc k)
    · exact .inr (.inl (h.loc k))
    · exact .inr (.inr (.inl (h.loc k)))
    · exact .inr (.inr (.inr (.inl (h.swp ha e k))))
    · exact .inr (.inr (.inr (.inr (.inl (h.swp ha e k)))))
    · exact .inr (.inr (.inr (.inr (.inr (h.swp ha e k)))))
  hnd := fun {t d Hi H p fp} => by
    have e : t % 10 % 10 = t % 10 := by omega
    unfold ScrOk DeckOk KepOk InsOk StaOk KxiOk
    rw [e]
theorem op_scr {K : Fg} {d : D} {Hi H : Hp} {p : Addr} {fp : List Addr} (h : (OpS K).ok 0 d Hi H p fp) : ScrOk K 0 d H p fp := by
  rcases h with h | h | h | h | h | h
  · exact h
  · have := h.1; omega
  · have := h.1; omega
  · have := h.1; omega
  · have := h.1; omega
  · have := h.1; omega
theorem op_kep {K : Fg} {t : Nat} {d : D} {Hi H : Hp} {p : Addr} {fp : List Addr} (ht : t % 10 = 2) (h : (OpS K).ok t d Hi H p fp) : KepOk K t d H p fp := by
  rcases h with h | h | h | h | h | h
  · have := h.1; omega
  · have := h.1; omega
  · exact h
  · have := h.1; omega
  · have := h.1; omega
  · have := h.1; omega
theorem op_kxi {K : Fg} {t : Nat} {d : D} {Hi H : Hp} {p : Addr} {fp : List Addr} (ht : t % 10 = 6) (h : (OpS K).ok t d Hi H p fp) : KxiOk K t d Hi H p fp := by
  rcases h with h | h | h | h | h | h
  · have := h.1; omega
  · have := h.1; omega
  · have := h.1; omega
  · have := h.1; omega
  · have := h.1; omega
  · exact h
theorem ScrOk.sq {K : Fg} {t : Nat} {d : D} {H : Hp} {p : Addr} {fp : List Addr} (h : ScrOk K t d H p fp) : ∃ ns : List Int, d = .list (ns.map .int) ∧ SqL K H p (ns.map V.int) := by
  obtain ⟨_, ns, hd, h⟩ := h
  refine ⟨ns, hd, ?_⟩
  rcases h with ⟨_, h⟩ | ⟨_, h⟩
  · exact .inr h
  · exact .inl h
theorem ScrOk.of {K : Fg} {H : Hp} {p : Addr} {ns : List Int} (h : SqL K H p (ns.map V.int)) : ∃ fp, ScrOk K 0 (.list (ns.map .int)) H p fp := by
  rcases h with h | h
  · exact ⟨[p], rfl, ns, rfl, .inr ⟨rfl, h⟩⟩
  · exact ⟨[], rfl, ns, rfl, .inl ⟨rfl, h⟩⟩
section
variable {X : Cx} {G : Gb} {W : WX} {a b c e o i : Expr} {es : List Expr} {ta tb tc te to ti : TE} {wa wb wc we wo wi : WE} {pos pos' p p2 p3 : Pos} {t : TA} {w : WA}
theorem sim_lenS (hO : G.Op = OpS G.K) (i : Nat) : SimE G W (tCB (rLenA G.K) (tCons (tVar i) tNil)) (wLenS i) := by
  intro C Hi σ H Γ Q Qd Xd c hw hQ hX
  unfold wLenS at hw
  split at hw
  · rename_i l e
    obtain ⟨fp, c0⟩ := id c
    obtain ⟨x, hx, p, rfl, ok, _⟩ := c0.sl i _ e
    rw [hO] at ok
    obtain ⟨ns, hd, s⟩ := ScrOk.sq (op_scr ok)
    refine ⟨_, hx, .inl ⟨_, l.length, rfl, .inl ⟨_, s, ?_⟩, hQ _ _ H Hi Γ (Ext.refl _) (out_int c _) hw⟩⟩
    injection hd with hd
    rw [hd]; simp
  · exact hw.elim
theorem de_lenS (hK : X.K = G.K) (hO : G.Op = OpS G.K) (i : Nat) {x : Str} (hm : X.mg "len" = none) (hN : X.N[i]? = some x := by rfl) (hv : Vis X.env.scope x := by first | exact Or.inl rfl | exact Or.inr (Or.inl rfl) | exact Or.inr (Or.inr rfl)) (hd : (x == ("__debug__" : Str)) = false := by decide)
    (hcd : (x == ("__classdict__" : Str)) = false := by decide) (hg : Gl X "len" := by rfl) (he : starEach [.Name x p2] X.env = (false, eval (.Name x p2) X.env) :: starEach [] X.env := by rfl) (hpl : (backTo pos (starEach [] X.env)).any (·.1) = false := by rfl) :
    DE X G W (.Call (.Name "len" p) [.Name x p2] [] pos) (tCB (rLenA G.K) (tCons (tVar i) tNil)) (wLenS i) :=
  ⟨pe_callB (by rw [← hK]; exact call_lenA) hg hm (by decide +kernel) (pa_cons (pe_var hN hv hd hcd) pa_nil he) (by decide) (by decide) he hpl, sim_lenS hO i⟩
theorem atI_map {α β : Type} (f : α → β) (l : List α) (i : Int) : atI (l.map f) i = (atI l i).map f := by
  unfold atI
  rw [List.length_map]
  cases ixN l.length i with
  | none => rfl
  | some j => simp
theorem sim_ixS (hO : G.Op = OpS G.K) (i : Nat) (h : SimE G W ta wa) : SimE G W (tOp (rIxA G.K) (tVar i) ta) (wIxS i wa) := by
  intro C Hi σ H Γ Q Qd Xd c hw hQ hX
  obtain ⟨ho, hw⟩ := hw
  have hp : ∃ p, σ[i]? = some (some (.ref p)) := by
    obtain ⟨fpc, c⟩ := c
    unfold isOwn at ho
    split at ho
    · rename_i d e
      obtain ⟨x, hx, p, _, e1, _⟩ := c.sl i _ e
      exact ⟨p, by rw [hx, e1]⟩
    · rename_i d e
      obtain ⟨x, hx, p, _, e1, _⟩ := c.sl i _ e
      exact ⟨p, by rw [hx, e1]⟩
    · rename_i t d e
      obtain ⟨x, hx, p, e1, _⟩ := c.sl i _ e
      exact ⟨p, by rw [hx, e1]⟩
    · exact ho.elim
  obtain ⟨p, hp⟩ := hp
  refine ⟨_, hp, h C Hi σ H Γ _ _ Xd c hw (fun v1 r1 H1 Hi1 Γ1 e1 o1 q1 => ?_) hX⟩
  obtain ⟨Hi2, e2, c2, h2⟩ := o1.hold
  obtain ⟨d, b1, q2⟩ := h2.read c2 q1
  obtain ⟨n, rfl, q3⟩ := isI_inv q2
  split at q3
  · rename_i l e
    split at q3
    · rename_i d ed
      obtain ⟨fp, c0⟩ := id c2
      obtain ⟨x, hx, p', rfl, ok, _⟩ := c0.sl i _ e
      rw [hp] at hx; cases hx
      rw [hO] at ok
      obtain ⟨ns, hd, s⟩ := ScrOk.sq (op_scr ok)
      injection hd with hd
      subst hd
      rw [atI_map] at ed
      cases eq : atI ns n with
      | none => rw [eq] at ed; cases ed
      | some z =>
        rw [eq] at ed
        cases ed
        exact .inl (.inl ⟨p, ns.map V.int, n, .int z, rfl, b1.int, s, by rw [atI_map, eq]; rfl, hQ _ (.sh (.int z)) H1 Hi2 Γ1 (e1.trans e2) (out_int c2 _) q3⟩)
    · exact q3.elim
  · exact q3.elim
theorem de_ixS (hK : X.K = G.K) (hO : G.Op = OpS G.K) (hu : X.A.units + 65 < cLine) (i : Nat) {x : Str} (hb : DE X G W b tb wb) (hN : X.N[i]? = some x := by rfl) (hv : Vis X.env.scope x := by first | exact Or.inl rfl | exact Or.inr (Or.inl rfl) | exact Or.inr (Or.inr rfl)) (hd : (x == ("__debug__" : Str)) = false := by decide)
    (hcd : (x == ("__classdict__" : Str)) = false := by decide) (hs : PlainIx b := by intro _ _; rfl) : DE X G W (.Subscript (.Name x p) b pos) (tOp (rIxA G.K) (tVar i) tb) (wIxS i wb) :=
  ⟨pe_ix (by rw [← hK]; exact ix_any (by omega)) (pe_var hN hv hd hcd) hb.pe hs, sim_ixS hO i hb.sim⟩
end
def fsLaw : FS := fun io ds Q _ => ∃ ns : List Int, ns.length ≤ 63 ∧ io = some (.op 0 (.list (ns.map .int))) ∧ ds = [] ∧ ∀ io', SameIo io io' → Q (.sh (.bool true)) io'
theorem law_sp {K : Fg} {ca : Str → Addr} {H : Hp} {a : Addr} {ns : List Int} (hl : ns.length ≤ 63) (h : SqL K H a (ns.map V.int)) : lift ⟨K, OpS K, ca⟩ fsLaw [.ref a] H (fun v _ => v = .bl true) fun _ _ _ => False := by
  obtain ⟨fp, ok⟩ := ScrOk.of h
  refine ⟨some (.op 0 (.list (ns.map .int))), [], fun _ => none, fun r _ => r = .sh (.bool true), fun _ _ => False, [.ref a], [], fp, rfl, ⟨by decide, a, rfl, .inl ok⟩, .nil, fun _ _ z => (nomatch z), fun _ _ => rfl, ⟨ns, hl, rfl, rfl, fun _ _ => rfl⟩, fun v r H' Hi' io' fp' L ra q => ?_, fun x c d H' Hi' io' fp' L hx q => q⟩
  subst q
  have ra : Rep K Hi' v (.bool true) := ra
  cases ra
  rfl
theorem fsLaw_len : FnL fsLaw 1 := by
  rintro io ds Q X ⟨ns, _, rfl, rfl, _⟩
  rfl
end VL

set_option Elab.async false
set_option linter.all false
namespace VL
open PySem L2
@[simp ↓] theorem ev_wC (d : D) (Γ : Ev) (Q : R → Ev → Prop) (X : XW) : wC d Γ Q X = (Q (.sh d) Γ) := rfl
@[simp ↓] theorem ev_wOp (o : Op2) (wa wb : WE) (Γ : Ev) (Q : R → Ev → Prop) (X : XW) : wOp o wa wb Γ Q X = (wa Γ (fun ra Γ1 => wb Γ1 (fun rb Γ2 => rdW ra Γ2 fun a => rdW rb Γ2 fun b => o a b fun r => Q r Γ2) X) X) := rfl
@[simp ↓] theorem ev_wUn (o : Op1) (wa : WE) (Γ : Ev) (Q : R → Ev → Prop) (X : XW) : wUn o wa Γ Q X = (wa Γ (fun ra Γ1 => rdW ra Γ1 fun a => o a fun r => Q r Γ1) X) := rfl
@[simp ↓] theorem ev_wT (w : WE) (Γ : Ev) (Q : Bool → Ev → Prop) (X : XW) : wT w Γ Q X = (w Γ (fun r Γ1 => rdW r Γ1 fun d => isB d fun b => Q b Γ1) X) := rfl
@[simp ↓] theorem ev_wAnd (a b : WT) (Γ : Ev) (Q : Bool → Ev → Prop) (X : XW) : wAnd a b Γ Q X = (a Γ (fun c Γ1 => if c = true then b Γ1 Q X else Q false Γ1) X) := rfl
@[simp ↓] theorem ev_wOr (a b : WT) (Γ : Ev) (Q : Bool → Ev → Prop) (X : XW) : wOr a b Γ Q X = (a Γ (fun c Γ1 => if c = true then Q true Γ1 else b Γ1 Q X) X) := rfl
@[simp ↓] theorem ev_wNot (a : WT) (Γ : Ev) (Q : Bool → Ev → Prop) (X : XW) : wNot a Γ Q X = (a Γ (fun c Γ1 => Q (!c) Γ1) X) := rfl
@[simp ↓] theorem ev_wAndV (wa wb : WE) (Γ : Ev) (Q : R → Ev → Prop) (X : XW) : wAndV wa wb Γ Q X = (wa Γ (fun r Γ1 => rdW r Γ1 fun d => isB d fun b => if b = true then wb Γ1 Q X else Q (.sh (.bool false)) Γ1) X) := rfl
@[simp ↓] theorem ev_wOrV (wa wb : WE) (Γ : Ev) (Q : R → Ev → Prop) (X : XW) : wOrV wa wb Γ Q X = (wa Γ (fun r Γ1 => rdW r Γ1 fun d => isB d fun b => if b = true then Q (.sh (.bool true)) Γ1 else wb Γ1 Q X) X) := rfl
@[simp ↓] theorem ev_wNotV (wa : WE) (Γ : Ev) (Q : R → Ev → Prop) (X : XW) : wNotV wa Γ Q X = (wa Γ (fun r Γ1 => rdW r Γ1 fun d => isB d fun b => Q (.sh (.bool (!b))) Γ1) X) := rfl
@[simp ↓] theorem ev_wIf (c : WT) (wa wb : WE) (Γ : Ev) (Q : R → Ev → Prop) (X : XW) : wIf c wa wb Γ Q X = (c Γ (fun b Γ1 => if b = true then wa Γ1 Q X else wb Γ1 Q X) X) := rfl
@[simp ↓] theorem ev_wChain (o o' : Op2) (wa wb wc : WE) (Γ : Ev) (Q : R → Ev → Prop) (X : XW) : wChain o o' wa wb wc Γ Q X =
    (wa Γ (fun ra Γ1 => wb Γ1 (fun rb Γ2 => rdW ra Γ2 fun a => rdW rb Γ2 fun b => o a b fun r => rdW r Γ2 fun d => isB d fun z =>
      if z = true then wc Γ2 (fun rc Γ3 => rdW rb Γ3 fun b' => rdW rc Γ3 fun c' => o' b' c' fun r => Q r Γ3) X else Q (.sh (.bool false)) Γ2) X) X) := rfl
@[simp ↓] theorem ev_wNil (Γ : Ev) (Q : List R → Ev → Prop) (X : XW) : wNil Γ Q X = (Q [] Γ) := rfl
@[simp ↓] theorem ev_wCons (wa : WE) (wr : WA) (Γ : Ev) (Q : List R → Ev → Prop) (X : XW) : wCons wa wr Γ Q X = (wa Γ (fun r Γ1 => wr Γ1 (fun rs Γ2 => Q (r :: rs) Γ2) X) X) := rfl
@[simp ↓] theorem ev_wTup (wa : WA) (Γ : Ev) (Q : R → Ev → Prop) (X : XW) : wTup wa Γ Q X = (wa Γ (fun rs Γ1 => frAll rs Γ1 fun ds Γ2 => ds.length ≤ 1000 ∧ Q (.sh (.tuple ds)) Γ2) X) := rfl
@[simp ↓] theorem ev_wLst (wa : WA) (Γ : Ev) (Q : R → Ev → Prop) (X : XW) : wLst wa Γ Q X = (wa Γ (fun rs Γ1 => frAll rs Γ1 fun ds Γ2 => ds.length ≤ 1000 ∧ Q (.ow (.list ds)) Γ2) X) := rfl
@[simp ↓] theorem ev_wCB (o : OpN) (wa : WA) (Γ : Ev) (Q : R → Ev → Prop) (X : XW) : wCB o wa Γ Q X = (wa Γ (fun rs Γ1 => rdAll rs Γ1 fun ds => o ds fun r => Q r Γ1) X) := rfl
@[simp ↓] theorem ev_wNext (Γ : Ev) (D : WD) (X : XW) : wNext Γ D X = (D.nx Γ) := rfl
@[simp ↓] theorem ev_wSeq (a b : WS) (Γ : Ev) (D : WD) (X : XW) : wSeq a b Γ D X = (a Γ ⟨fun Γ1 => b Γ1 D X, D.rt, D.bk, D.ct⟩ X) := rfl
@[simp ↓] theorem ev_wBrk (Γ : Ev) (D : WD) (X : XW) : wBrk Γ D X = (D.bk Γ) := rfl
@[simp ↓] theorem ev_wCnt (Γ : Ev) (D : WD) (X : XW) : wCnt Γ D X = (D.ct Γ) := rfl
@[simp ↓] theorem ev_wDrop (w : WE) (Γ : Ev) (D : WD) (X : XW) : wDrop w Γ D X = (w Γ (fun _ Γ1 => D.nx Γ1) X) := rfl
@[simp ↓] theorem ev_wRet (w : WE) (Γ : Ev) (D : WD) (X : XW) : wRet w Γ D X = (w Γ (fun r Γ1 => D.rt r Γ1) X) := rfl
@[simp ↓] theorem ev_wRetN (Γ : Ev) (D : WD) (X : XW) : wRetN Γ D X = (D.rt (.sh .none) Γ) := rfl
@[simp ↓] theorem ev_wIfS (c : WT) (a b : WS) (Γ : Ev) (D : WD) (X : XW) : wIfS c a b Γ D X = (c Γ (fun z Γ1 => if z = true then a Γ1 D X else b Γ1 D X) X) := rfl
@[simp ↓] theorem ev_wSet (i : Nat) (w : WE) (Γ : Ev) (D : WD) (X : XW) : wSet i w Γ D X = (w Γ (fun r Γ1 => setR i r Γ1 D.nx) X) := rfl
@[simp ↓] theorem ev_wAsg (w : WE) (g : WG) (Γ : Ev) (D : WD) (X : XW) : wAsg w g Γ D X = (w Γ (fun r Γ1 => frW r Γ1 fun d Γ2 => g d Γ2 D.nx) X) := rfl
@[simp ↓] theorem ev_wFor (wi : WI) (g : WG) (b : WS) (Γ : Ev) (D : WD) (X : XW) : wFor wi g b Γ D X = (wi Γ (fun ds Γ1 => loopW g b D X ds Γ1) X) := rfl
@[simp ↓] theorem ev_wiL (w : WE) (Γ : Ev) (Q : List PyData → Ev → Prop) (X : XW) : wiL w Γ Q X = (w Γ (fun r Γ1 => frW r Γ1 fun d Γ2 => isL d fun ds => Q ds Γ2) X) := rfl
@[simp ↓] theorem ev_wiR1 (wa : WA) (Γ : Ev) (Q : List PyData → Ev → Prop) (X : XW) : wiR1 wa Γ Q X =
    (wa Γ (fun rs Γ1 => rdAll rs Γ1 fun ds => match ds with
      | [.int j] => -(2 ^ 62) ≤ j ∧ j < 2 ^ 62 ∧ Q (rangeD 0 j.toNat) Γ1
      | _ => False) X) := rfl
@[simp ↓] theorem ev_wiR2 (wa : WA) (Γ : Ev) (Q : List PyData → Ev → Prop) (X : XW) : wiR2 wa Γ Q X =
    (wa Γ (fun rs Γ1 => rdAll rs Γ1 fun ds => match ds with
      | [.int i, .int j] => (-(2 ^ 62) ≤ i ∧ i < 2 ^ 62 ∧ -(2 ^ 62) ≤ j ∧ j < 2 ^ 62) ∧ Q (rangeD i (j - i).toNat) Γ1
      | _ => False) X) := rfl
@[simp ↓] theorem ev_wiA (f : List D → List D) (wa : WA) (Γ : Ev) (Q : List PyData → Ev → Prop) (X : XW) : wiA f wa Γ Q X =
    (wa Γ (fun rs Γ1 => frAll rs Γ1 fun ds Γ2 => match ds with
      | [.list l] => Q (f l) Γ2
      | _ => False) X) := rfl
@[simp ↓] theorem ev_wiZ (wa : WA) (Γ : Ev) (Q : List PyData → Ev → Prop) (X : XW) : wiZ wa Γ Q X =
    (wa Γ (fun rs Γ1 => frAll rs Γ1 fun ds Γ2 => match ds with
      | [.list l, .list m] => Q (List.zipWith (fun x y => .tuple [x, y]) l m) Γ2
      | _ => False) X) := rfl
@[simp ↓] theorem ev_wiS (w : WE) (Γ : Ev) (Q : List PyData → Ev → Prop) (X : XW) : wiS w Γ Q X = (w Γ (fun r Γ1 => rdW r Γ1 fun d => isS d fun z => Q (signsD z) Γ1) X) := rfl
@[simp ↓] theorem ev_wNoP (Γ : Ev) (Q : Option Int → Ev → Prop) (X : XW) : wNoP Γ Q X = (Q none Γ) := rfl
@[simp ↓] theorem ev_wPart (w : WE) (Γ : Ev) (Q : Option Int → Ev → Prop) (X : XW) : wPart w Γ Q X = (w Γ (fun r Γ1 => rdW r Γ1 fun d => isI d fun i => Q (some i) Γ1) X) := rfl
@[simp ↓] theorem ev_wSlL (wa : WE) (wl wh : WO) (Γ : Ev) (Q : R → Ev → Prop) (X : XW) : wSlL wa wl wh Γ Q X = (wa Γ (fun r Γ1 => wl Γ1 (fun lo Γ2 => wh Γ2 (fun hi Γ3 => rdW r Γ3 fun d => isL d fun ds => Q (.ow (.list (cutD ds lo hi))) Γ3) X) X) X) := rfl
@[simp ↓] theorem ev_wIsi (T : String) (w : WE) (Γ : Ev) (Q : R → Ev → Prop) (X : XW) : wIsi T w Γ Q X = (w Γ (fun r Γ1 => rdW r Γ1 fun d => Q (.sh (.bool (isT (tyN d) T))) Γ1) X) := rfl
@[simp ↓] theorem ev_wIsi2 (T U : String) (w : WE) (Γ : Ev) (Q : R → Ev → Prop) (X : XW) : wIsi2 T U w Γ Q X = (w Γ (fun r Γ1 => rdW r Γ1 fun d => Q (.sh (.bool (isT (tyN d) T || isT (tyN d) U))) Γ1) X) := rfl
@[simp ↓] theorem ev_wMut (i : Nat) (f : OpM) (wa : WA) (Γ : Ev) (Q : R → Ev → Prop) (X : XW) : wMut i f wa Γ Q X = (owW i Γ fun d _ => isL d fun _ => wa Γ (fun rs Γ1 => frAll rs Γ1 fun ds Γ2 => owW i Γ2 fun d f' => isL d fun l => f l ds fun l' r => Q (.sh r) (f' (.list l'))) X) := rfl
@[simp ↓] theorem ev_wMut0 (i : Nat) (f : OpM) (Γ : Ev) (Q : R → Ev → Prop) (X : XW) : wMut0 i f Γ Q X = (owW i Γ fun d f' => isL d fun l => f l [] fun l' r => Q (.sh r) (f' (.list l'))) := rfl
@[simp ↓] theorem ev_wDict0 (Γ : Ev) (Q : R → Ev → Prop) (X : XW) : wDict0 Γ Q X = (Q (.ow (.dict [])) Γ) := rfl
@[simp ↓] theorem ev_wDGet1 (wd wk : WE) (Γ : Ev) (Q : R → Ev → Prop) (X : XW) : wDGet1 wd wk Γ Q X = (wd Γ (fun r Γ1 => rdW r Γ1 fun d => isD d fun _ => wk Γ1 (fun rk Γ2 => rdW r Γ2 fun d => isD d fun ps => rdW rk Γ2 fun key => isK key (Q (.sh ((dget ps key).getD .none)) Γ2)) X) X) := rfl
@[simp ↓] theorem ev_wDGet2 (wd wk wx : WE) (Γ : Ev) (Q : R → Ev → Prop) (X : XW) : wDGet2 wd wk wx Γ Q X =
    (wd Γ (fun r Γ1 => rdW r Γ1 fun d => isD d fun _ => wk Γ1 (fun rk Γ2 => wx Γ2 (fun rx Γ3 => frW rx Γ3 fun dx Γ4 =>
      rdW r Γ4 fun d => isD d fun ps => rdW rk Γ4 fun key => isK key (Q (.sh ((dget ps key).getD dx)) Γ4)) X) X) X) := rfl
@[simp ↓] theorem ev_wDPut (i : Nat) (wk wv : WE) (Γ : Ev) (D : WD) (X : XW) : wDPut i wk wv Γ D X = (wv Γ (fun rv Γ1 => owW i Γ1 fun _ _ => wk Γ1 (fun rk Γ2 => frW rv Γ2 fun dv Γ3 => rdW rk Γ3 fun key => isK key (owW i Γ3 fun d f => isD d fun ps => ps.length < sizeLine ∧ D.nx (f (.dict (dput ps key dv))))) X) X) := rfl
@[simp ↓] theorem ev_wLPut (i : Nat) (wk wv : WE) (Γ : Ev) (D : WD) (X : XW) : wLPut i wk wv Γ D X =
    (wv Γ (fun rv Γ1 => owW i Γ1 fun _ _ => wk Γ1 (fun rk Γ2 => frW rv Γ2 fun dv Γ3 => rdW rk Γ3 fun key => isI key fun n => owW i Γ3 fun d f => isL d fun l =>
      match ixN l.length n with
      | some j => D.nx (f (.list (l.set j dv)))
      | none => False) X) X) := rfl
@[simp ↓] theorem ev_wExt (i : Nat) (w : WE) (Γ : Ev) (Q : R → Ev → Prop) (X : XW) : wExt i w Γ Q X = (owW i Γ fun d _ => isL d fun _ => w Γ (fun r Γ1 => frW r Γ1 fun d Γ2 => isL d fun ys => owW i Γ2 fun d f => isL d fun l => l.length + ys.length ≤ sizeLine ∧ Q (.sh .none) (f (.list (l ++ ys)))) X) := rfl
@[simp ↓] theorem ev_wsNil (Γ : Ev) (Q : List Sl → Ev → Prop) (X : XW) : wsNil Γ Q X = (Q [] Γ) := rfl
@[simp ↓] theorem ev_wsCons (w : WE) (ws : WSl) (Γ : Ev) (Q : List Sl → Ev → Prop) (X : XW) : wsCons w ws Γ Q X = (w Γ (fun r Γ1 => slW r Γ1 fun s Γ2 => ws Γ2 (fun ss Γ3 => Q (s :: ss) Γ3) X) X) := rfl
@[simp ↓] theorem ev_wPar (is : List Nat) (ws : WSl) (Γ : Ev) (D : WD) (X : XW) : wPar is ws Γ D X = (ws Γ (fun ss Γ1 => ss.length = is.length ∧ (∀ i ∈ is, i < Γ1.length) ∧ D.nx ((is.zip ss).foldl (fun Γ p => Γ.set p.1 p.2) Γ1)) X) := rfl
@[simp ↓] theorem ev_wYes (Γ : Ev) (Q : Bool → Ev → Prop) (X : XW) : wYes Γ Q X = (Q true Γ) := rfl
@[simp ↓] theorem ev_wCall (fs : FS) (dv : List D) (wa : WA) (Γ : Ev) (Q : R → Ev → Prop) (X : XW) : wCall fs dv wa Γ Q X = (wa Γ (fun rs Γ1 => frAll rs Γ1 fun ds Γ2 => fs none (ds ++ dv) (fun r _ => Q r Γ2) fun x _ => X x Γ2) X) := rfl
@[simp ↓] theorem ev_wRevL (wa : WE) (Γ : Ev) (Q : R → Ev → Prop) (X : XW) : wRevL wa Γ Q X = (wa Γ (fun r Γ1 => rdW r Γ1 fun d => isL d fun ds => Q (.ow (.list ds.reverse)) Γ1) X) := rfl
@[simp ↓] theorem ev_wCallB (fs : FS) (dv : List D) (wa : WA) (Γ : Ev) (Q : R → Ev → Prop) (X : XW) : wCallB fs dv wa Γ Q X = (wa Γ (fun rs Γ1 => rdAll rs Γ1 fun ds => fs none (ds ++ dv) (fun r _ => flatR r ∧ Q r Γ1) fun x _ => x.idx = none ∧ X x Γ1) X) := rfl
@[simp ↓] theorem ev_rd_sh (d : D) (Γ : Ev) (k : D → Prop) : rdW (.sh d) Γ k = k d := rfl
@[simp ↓] theorem ev_rd_ow (d : D) (Γ : Ev) (k : D → Prop) : rdW (.ow d) Γ k = k d := rfl
def getS : Ev → Nat → (Sl → Prop) → Prop
  | [], _, _ => False
  | s :: _, 0, k => k s
  | _ :: Γ, i + 1, k => getS Γ i k
theorem getS_at : ∀ (Γ : Ev) (i : Nat) (k : Sl → Prop), getS Γ i k = (match Γ[i]? with
  | some s => k s
  | none => False)
  | [], i, k => by simp [getS]
  | s :: _, 0, k => rfl
  | _ :: Γ, i + 1, k => by rw [getS, getS_at Γ i k]; simp
@[simp ↓] theorem getS_0 (s : Sl) (Γ : Ev) (k : Sl → Prop) : getS (s :: Γ) 0 k = k s := rfl
@[simp ↓] theorem getS_s (s : Sl) (Γ : Ev) (i : Nat) (k : Sl → Prop) : getS (s :: Γ) (i + 1) k = getS Γ i k := rfl
def slVar : Sl → Nat → Ev → (R → Ev → Prop) → Prop
  | .sh d, _, Γ, Q => Q (.sh d) Γ
  | .ow _, i, Γ, Q => Q (.vr i) Γ
  | .io _, i, Γ, Q => Q (.vr i) Γ
  | .op _ _, i, Γ, Q => Q (.vr i) Γ
  | .no, _, _, _ => False
  | .two _ _, _, _, _ => False
@[simp ↓] theorem slVar_sh (d : D) (i : Nat) (Γ : Ev) (Q : R → Ev → Prop) : slVar (.sh d) i Γ Q = Q (.sh d) Γ := rfl
@[simp ↓] theorem slVar_ow (d : D) (i : Nat) (Γ : Ev) (Q : R → Ev → Prop) : slVar (.ow d) i Γ Q = Q (.vr i) Γ := rfl
@[simp ↓] theorem slVar_io (d : D) (i : Nat) (Γ : Ev) (Q : R → Ev → Prop) : slVar (.io d) i Γ Q = Q (.vr i) Γ := rfl
@[simp ↓] theorem slVar_op (t : Nat) (d : D) (i : Nat) (Γ : Ev) (Q : R → Ev → Prop) : slVar (.op t d) i Γ Q = Q (.vr i) Γ := rfl
@[simp ↓] theorem ev_wVar (i : Nat) (Γ : Ev) (Q : R → Ev → Prop) (X : XW) : wVar i Γ Q X = getS Γ i fun s => slVar s i Γ Q := by
  rw [getS_at]
  unfold wVar
  cases Γ[i]? with
  | none => rfl
  | some s => cases s <;> rfl
def slRd : Sl → (D → Prop) → Prop
  | .sh d, k => k d
  | .ow d, k => k d
  | .io d, k => k d
  | _, _ => False
@[simp ↓] theorem slRd_sh (d : D) (k : D → Prop) : slRd (.sh d) k = k d := rfl
@[simp ↓] theorem slRd_ow (d : D) (k : D → Prop) : slRd (.ow d) k = k d := rfl
@[simp ↓] theorem slRd_io (d : D) (k : D → Prop) : slRd (.io d) k = k d := rfl
@[simp ↓] theorem ev_rd_vr (i : Nat) (Γ : Ev) (k : D → Prop) : rdW (.vr i) Γ k = getS Γ i fun s => slRd s k := by
  rw [getS_at]
  unfold rdW
  dsimp only
  cases Γ[i]? with
  | none => rfl
  | some s => cases s <;> rfl
def slFr : Sl → Nat → Ev → (D → Ev → Prop) → Prop
  | .sh d, _, Γ, k => k d Γ
  | .ow d, i, Γ, k => k d (Γ.set i (.sh d))
  | _, _, _, _ => False
@[simp ↓] theorem slFr_sh (d : D) (i : Nat) (Γ : Ev) (k : D → Ev → Prop) : slFr (.sh d) i Γ k = k d Γ := rfl
@[simp ↓] theorem slFr_ow (d : D) (i : Nat) (Γ : Ev) (k : D → Ev → Prop) : slFr (.ow d) i Γ k = k d (Γ.set i (.sh d)) := rfl
def slOw : Sl → Nat → Ev → (D → (D → Ev) → Prop) → Prop
  | .ow d, i, Γ, k => k d fun d' => Γ.set i (.ow d')
  | .io d, i, Γ, k => k d fun d' => Γ.set i (.io d')
  | _, _, _, _ => False
@[simp ↓] theorem slOw_ow (d : D) (i : Nat) (Γ : Ev) (k : D → (D → Ev) → Prop) : slOw (.ow d) i Γ k = k d fun d' => Γ.set i (.ow d') := rfl
@[simp ↓] theorem slOw_io (d : D) (i : Nat) (Γ : Ev) (k : D → (D → Ev) → Prop) : slOw (.io d) i Γ k = k d fun d' => Γ.set i (.io d') := rfl
@[simp ↓] theorem ev_owW (i : Nat) (Γ : Ev) (k : D → (D → Ev) → Prop) : owW i Γ k = getS Γ i fun s => slOw s i Γ k := by
  rw [getS_at]
  unfold owW
  cases Γ[i]? with
  | none => rfl
  | some s => cases s <;> rfl
def slSh : Sl → (D → Prop) → Prop
  | .sh d, k => k d
  | _, _ => False
@[simp ↓] theorem slSh_sh (d : D) (k : D → Prop) : slSh (.sh d) k = k d := rfl
@[simp ↓] theorem ev_wAug (i : Nat) (o : Op2) (w : WE) (Γ : Ev) (D : WD) (X : XW) : wAug i o w Γ D X = getS Γ i fun s => slSh s fun a => w Γ (fun r Γ1 => rdW r Γ1 fun b => o a b fun r2 => setR i r2 Γ1 D.nx) X := by
  rw [getS_at]
  unfold wAug
  cases Γ[i]? with
  | none => rfl
  | some s => cases s <;> rfl
def slIo : Sl → Nat → Ev → (Sl → (Option Sl → Ev) → Prop) → Prop
  | .ow d, i, Γ, k => k (.io d) fun s => match s with
    | some (.io d') => Γ.set i (.ow d')
    | _ => Γ
  | .io d, i, Γ, k => k (.io d) fun s => match s with
    | some (.io d') => Γ.set i (.io d')
    | _ => Γ
  | .op t d, i, Γ, k => k (.op (hand t) d) fun s => match s with
    | some (.op _ d') => Γ.set i (.op t d')
    | _ => Γ
  | _, _, _, _ => False
@[simp ↓] theorem slIo_ow (d : D) (i : Nat) (Γ : Ev) (k : Sl → (Option Sl → Ev) → Prop) : slIo (.ow d) i Γ k = k (.io d) fun s => match s with
    | some (.io d') => Γ.set i (.ow d')
    | _ => Γ := rfl
@[simp ↓] theorem slIo_io (d : D) (i : Nat) (Γ : Ev) (k : Sl → (Option Sl → Ev) → Prop) : slIo (.io d) i Γ k = k (.io d) fun s => match s with
    | some (.io d') => Γ.set i (.io d')
    | _ => Γ := rfl
@[simp ↓] theorem slIo_op (t : Nat) (d : D) (i : Nat) (Γ : Ev) (k : Sl → (Option Sl → Ev) → Prop) : slIo (.op t d) i Γ k = k (.op (hand t) d) fun s => match s with
    | some (.op _ d') => Γ.set i (.op t d')
    | _ => Γ := rfl
@[simp ↓] theorem ev_ioW (i : Nat) (Γ : Ev) (k : Sl → (Option Sl → Ev) → Prop) : ioW i Γ k = getS Γ i fun s => slIo s i Γ k := by
  rw [getS_at]
  unfold ioW
  cases Γ[i]? with
  | none => rfl
  | some s => cases s <;> rfl
def slIs : Sl → Prop
  | .ow _ => True
  | .io _ => True
  | .op _ _ => True
  | _ => False
@[simp] theorem slIs_ow (d : D) : slIs (.ow d) = True := rfl
@[simp] theorem slIs_io (d : D) : slIs (.io d) = True := rfl
@[simp] theorem slIs_op (t : Nat) (d : D) : slIs (.op t d) = True := rfl
@[simp ↓] theorem ev_isOwn (i : Nat) (Γ : Ev) : isOwn Γ i = getS Γ i slIs := by
  rw [getS_at]
  unfold isOwn
  cases Γ[i]? with
  | none => rfl
  | some s => cases s <;> rfl
@[simp ↓] theorem ev_wCallIo (fs : FS) (i : Nat) (dv : List D) (wa : WA) (Γ : Ev) (Q : R → Ev → Prop) (X : XW) : wCallIo fs i dv wa Γ Q X = (isOwn Γ i ∧ wa Γ (fun rs Γ1 => frAll rs Γ1 fun ds Γ2 => ioW i Γ2 fun s f => fs (some s) (ds ++ dv) (fun r io => SameIo (some s) io ∧ Q r (f io)) fun x io => SameIo (some s) io ∧ X x (f io)) X) := rfl
def slScr : Sl → (List D → Prop) → Prop
  | .op 0 (.list l), k => k l
  | _, _ => False
@[simp ↓] theorem slScr_op (l : List D) (k : List D → Prop) : slScr (.op 0 (.list l)) k = k l := rfl
@[simp ↓] theorem ev_wLenS (i : Nat) (Γ : Ev) (Q : R → Ev → Prop) (X : XW) : wLenS i Γ Q X = getS Γ i fun s => slScr s fun l => Q (.sh (.int (l.length : Int))) Γ := by
  rw [getS_at]
  unfold wLenS
  cases Γ[i]? with
  | none => rfl
  | some s =>
    cases s with
    | op t d => cases t <;> cases d <;> rfl
    | _ => rfl
@[simp ↓] theorem ev_wIxS (i : Nat) (wa : WE) (Γ : Ev) (Q : R → Ev → Prop) (X : XW) : wIxS i wa Γ Q X = (isOwn Γ i ∧ wa Γ (fun r Γ1 => rdW r Γ1 fun d => isI d fun n => getS Γ1 i fun s => slScr s fun l => match atI l n with
    | some d => Q (.sh d) Γ1
    | none => False) X) := by
  unfold wIxS
  congr 1
  congr 1
  funext r Γ1
  congr 1
  funext d
  congr 1
  funext n
  rw [getS_at]
  cases Γ1[i]? with
  | none => rfl
  | some s =>
    cases s with
    | op t d => cases t <;> cases d <;> rfl
    | _ => rfl
@[simp ↓] theorem ev_fr_sh (d : D) (Γ : Ev) (k : D → Ev → Prop) : frW (.sh d) Γ k = k d Γ := rfl
@[simp ↓] theorem ev_fr_ow (d : D) (Γ : Ev) (k : D → Ev → Prop) : frW (.ow d) Γ k = k d Γ := rfl
@[simp ↓] theorem ev_fr_vr (i : Nat) (Γ : Ev) (k : D → Ev → Prop) : frW (.vr i) Γ k = getS Γ i fun s => slFr s i Γ k := by
  rw [getS_at]
  unfold frW
  dsimp only
  cases Γ[i]? with
  | none => rfl
  | some s => cases s <;> rfl
@[simp ↓] theorem ev_frAll_nil (Γ : Ev) (k : List D → Ev → Prop) : frAll [] Γ k = k [] Γ := rfl
@[simp ↓] theorem ev_frAll_cons (r : R) (rs : List R) (Γ : Ev) (k : List D → Ev → Prop) : frAll (r :: rs) Γ k = frW r Γ fun d Γ1 => frAll rs Γ1 fun ds Γ2 => k (d :: ds) Γ2 := rfl
@[simp ↓] theorem ev_rdAll_nil (Γ : Ev) (k : List D → Prop) : rdAll [] Γ k = k [] := rfl
@[simp ↓] theorem ev_rdAll_cons (r : R) (rs : List R) (Γ : Ev) (k : List D → Prop) : rdAll (r :: rs) Γ k = rdW r Γ fun d => rdAll rs Γ fun ds => k (d :: ds) := rfl
@[simp ↓] theorem ev_setR_sh (i : Nat) (d : D) (Γ : Ev) (k : Ev → Prop) : setR i (.sh d) Γ k = k (Γ.set i (.sh d)) := rfl
@[simp ↓] theorem ev_setR_ow (i : Nat) (d : D) (Γ : Ev) (k : Ev → Prop) : setR i (.ow d) Γ k = k (Γ.set i (.ow d)) := rfl
@[simp ↓] theorem ev_setR_vr (i j : Nat) (Γ : Ev) (k : Ev → Prop) : setR i (.vr j) Γ k = frW (.vr j) Γ fun d Γ1 => k (Γ1.set i (.sh d)) := rfl
@[simp ↓] theorem ev_isI (i : Int) (k : Int → Prop) : isI (.int i) k = k i := rfl
@[simp ↓] theorem ev_isB (i : Bool) (k : Bool → Prop) : isB (.bool i) k = k i := rfl
@[simp ↓] theorem ev_isS (i : Str) (k : Str → Prop) : isS (.str i) k = k i := rfl
@[simp ↓] theorem ev_isL (i : List D) (k : List D → Prop) : isL (.list i) k = k i := rfl
@[simp ↓] theorem ev_isD (i : List (D × D)) (k : List (D × D) → Prop) : isD (.dict i) k = k i := rfl
@[simp ↓] theorem ev_isN (k : Prop) : isN .none k = k := rfl
@[simp ↓] theorem ev_isKi (i : Int) (k : Prop) : isK (.int i) k = k := rfl
@[simp ↓] theorem ev_isKs (i : Str) (k : Prop) : isK (.str i) k = k := rfl
@[simp ↓] theorem ev_oII (P : Int → Int → Prop) (g : Int → Int → Int) (i j : Int) (k : R → Prop) : oII P g (.int i) (.int j) k = (P i j ∧ k (.sh (.int (g i j)))) := rfl
@[simp ↓] theorem ev_oIB (g : Int → Int → Bool) (i j : Int) (k : R → Prop) : oIB g (.int i) (.int j) k = k (.sh (.bool (g i j))) := rfl
@[simp ↓] theorem ev_o1 (o : Op1) (d : D) (k : R → Prop) : o1 o [d] k = o d k := rfl
@[simp ↓] theorem ev_o2 (o : Op2) (d e : D) (k : R → Prop) : o2 o [d, e] k = o d e k := rfl
@[simp ↓] theorem ev_len_l (l : List D) (k : R → Prop) : oLen (.list l) k = k (.sh (.int l.length)) := rfl
@[simp ↓] theorem ev_len_t (l : List D) (k : R → Prop) : oLen (.tuple l) k = k (.sh (.int l.length)) := rfl
@[simp ↓] theorem ev_len_s (z : Str) (k : R → Prop) : oLen (.str z) k = (z.length ≤ sizeLine ∧ k (.sh (.int z.length))) := rfl
@[simp ↓] theorem ev_len_d (l : List (D × D)) (k : R → Prop) : oLen (.dict l) k = k (.sh (.int l.length)) := rfl
@[simp ↓] theorem ev_isNd (a : D) (k : R → Prop) : oIsN a .none k = k (.sh (.bool (isNone a))) := rfl
@[simp ↓] theorem ev_notNd (a : D) (k : R → Prop) : oNotN a .none k = k (.sh (.bool (!isNone a))) := rfl
@[simp ↓] theorem ev_isNone_n : isNone .none = true := rfl
@[simp ↓] theorem ev_isNone_i (i : Int) : isNone (.int i) = false := rfl
@[simp ↓] theorem ev_isNone_t (i : List D) : isNone (.tuple i) = false := rfl
@[simp ↓] theorem ev_isNone_l (i : List D) : isNone (.list i) = false := rfl
@[simp ↓] theorem ev_isNone_s (i : Str) : isNone (.str i) = false := rfl
@[simp ↓] theorem ev_wgName (i : Nat) (d : D) (Γ : Ev) (k : Ev → Prop) : wgName i d Γ k = k (Γ.set i (.sh d)) := rfl
@[simp ↓] theorem ev_wgTup (n : Nat) (b : WGs) (ds : List D) (Γ : Ev) (k : Ev → Prop) : wgTup n b (.tuple ds) Γ k = (ds.length = n ∧ b ds Γ k) := rfl
@[simp ↓] theorem ev_wgNil (Γ : Ev) (k : Ev → Prop) : wgNil [] Γ k = k Γ := rfl
@[simp ↓] theorem ev_wgCons (a : WG) (b : WGs) (d : D) (ds : List D) (Γ : Ev) (k : Ev → Prop) : wgCons a b (d :: ds) Γ k = a d Γ fun Γ1 => b ds Γ1 k := rfl
@[simp ↓] theorem ev_loop_nil (g : WG) (b : WS) (D : WD) (X : XW) (Γ : Ev) : loopW g b D X [] Γ = D.nx Γ := rfl
@[simp ↓] theorem ev_oEq (a b : D) (k : R → Prop) : oEq a b k = (SeqAt.shaped a = true ∧ SeqAt.shaped b = true ∧ k (.sh (.bool (PyData.eqv a b)))) := rfl
@[simp ↓] theorem ev_oNe (a b : D) (k : R → Prop) : oNe a b k = (SeqAt.shaped a = true ∧ SeqAt.shaped b = true ∧ k (.sh (.bool (!PyData.eqv a b)))) := rfl
@[simp ↓] theorem ev_oMul (i j : Int) (k : R → Prop) : oMul (.int i) (.int j) k = (CMulW i j ∧ k (.sh (.int (i * j)))) := rfl
@[simp ↓] theorem ev_oAdd_i (i j : Int) (k : R → Prop) : oAdd (.int i) (.int j) k = k (.sh (.int (i + j))) := rfl
@[simp ↓] theorem ev_oAdd_s (i j : Str) (k : R → Prop) : oAdd (.str i) (.str j) k = (i.length + j.length ≤ sizeLine ∧ k (.sh (.str (i ++ j)))) := rfl
@[simp ↓] theorem ev_oAdd_l (i j : List D) (k : R → Prop) : oAdd (.list i) (.list j) k = (i.length + j.length ≤ sizeLine ∧ k (.ow (.list (i ++ j)))) := rfl
@[simp ↓] theorem ev_oInt_i (i : Int) (k : R → Prop) : oInt (.int i) k = k (.sh (.int i)) := rfl
@[simp ↓] theorem ev_oInt_b (i : Bool) (k : R → Prop) : oInt (.bool i) k = k (.sh (.int (if i then 1 else 0))) := rfl
@[simp ↓] theorem ev_oMax (i j : Int) (k : R → Prop) : oMax (.int i) (.int j) k = k (.sh (.int (if j > i then j else i))) := rfl
@[simp ↓] theorem ev_oMin (i j : Int) (k : R → Prop) : oMin (.int i) (.int j) k = k (.sh (.int (if j < i then j else i))) := rfl
theorem ev_ixt (l : List D) (i : Int) (k : R → Prop) : oIx (.tuple l) (.int i) k = (match atI l i with
  | some d => k (.sh d)
  | none => False) := rfl
theorem ev_ixl (l : List D) (i : Int) (k : R → Prop) : oIx (.list l) (.int i) k = (match atI l i with
  | some d => k (.sh d)
  | none => False) := rfl
@[simp ↓] theorem ix_t0 (a : D) (l : List D) (k : R → Prop) : oIx (.tuple (a :: l)) (.int 0) k = k (.sh a) := by
  rw [ev_ixt]
  have : atI (a :: l) 0 = some a := by unfold atI; simp [ixN]
  rw [this]
@[simp ↓] theorem ix_t1 (a b : D) (l : List D) (k : R → Prop) : oIx (.tuple (a :: b :: l)) (.int 1) k = k (.sh b) := by
  rw [ev_ixt]
  have : atI (a :: b :: l) 1 = some b := by
    unfold atI
    simp only [ixN, List.length_cons]
    rw [if_pos (by decide), if_pos (by omega)]
    rfl
  rw [this]
@[simp ↓] theorem ix_t2 (a b c : D) (l : List D) (k : R → Prop) : oIx (.tuple (a :: b :: c :: l)) (.int 2) k = k (.sh c) := by
  rw [ev_ixt]
  have : atI (a :: b :: c :: l) 2 = some c := by
    unfold atI
    simp only [ixN, List.length_cons]
    rw [if_pos (by decide), if_pos (by omega)]
    rfl
  rw [this]
@[simp ↓] theorem ix_l0 (a : D) (l : List D) (k : R → Prop) : oIx (.list (a :: l)) (.int 0) k = k (.sh a) := ix_t0 a l k
@[simp ↓] theorem ix_l1 (a b : D) (l : List D) (k : R → Prop) : oIx (.list (a :: b :: l)) (.int 1) k = k (.sh b) := ix_t1 a b l k
@[simp ↓] theorem ix_l2 (a b c : D) (l : List D) (k : R → Prop) : oIx (.list (a :: b :: c :: l)) (.int 2) k = k (.sh c) := ix_t2 a b c l k
@[simp ↓] theorem isT_self (T : String) : isT T T = true := by simp [isT]
@[simp ↓] theorem tyN_none : tyN .none = "NoneType" := rfl
@[simp ↓] theorem tyN_bool (b : Bool) : tyN (.bool b) = "bool" := rfl
@[simp ↓] theorem tyN_int (b : Int) : tyN (.int b) = "int" := rfl
@[simp ↓] theorem tyN_str (b : Str) : tyN (.str b) = "str" := rfl
@[simp ↓] theorem tyN_list (b : List D) : tyN (.list b) = "list" := rfl
@[simp ↓] theorem tyN_tuple (b : List D) : tyN (.tuple b) = "tuple" := rfl
@[simp ↓] theorem tyN_dict (b : List (D × D)) : tyN (.dict b) = "dict" := rfl
@[simp ↓] theorem ev_append (l : List D) (x : D) (k : List D → D → Prop) : fAppend l [x] k = (l.length < sizeLine ∧ k (l ++ [x]) .none) := rfl
@[simp ↓] theorem ev_in_str (neg : Bool) (a : D) (z : Str) (k : R → Prop) : oIn neg a (.str z) k = isS a fun y => ∃ c, y = ⟨#[c]⟩ ∧ k (.sh (.bool (if neg then !decide (c ∈ z.cps.toList) else decide (c ∈ z.cps.toList)))) := rfl
@[simp ↓] theorem ev_in_dict (neg : Bool) (a : D) (z : List (D × D)) (k : R → Prop) : oIn neg a (.dict z) k = isK a (k (.sh (.bool (if neg then !(dget z a).isSome else (dget z a).isSome)))) := rfl
@[simp ↓] theorem ev_in_tup (neg : Bool) (a : D) (ds : List D) (k : R → Prop) : oIn neg a (.tuple ds) k = (flatD a = true ∧ ds.all flatD = true ∧ k (.sh (.bool (if neg then !(ds.any fun z => PyData.eqv z a) else ds.any fun z => PyData.eqv z a)))) := rfl
theorem ev_wLc (vs : List Nat) (wi : WI) (g : WG) (t : WT) (w : WE) (Γ : Ev) (Q : R → Ev → Prop) (X : XW) : wLc vs wi g t w Γ Q X = wi Γ (fun ds Γ1 => okW Γ1 vs ∧ lcW vs g t w (fun acc Γ2 => Q (.ow (.list acc)) (restE Γ1 Γ2 vs)) ds [] (wipeE Γ1 vs)) X := rfl
@[simp ↓] theorem slW_sh (d : D) (Γ : Ev) (k : Sl → Ev → Prop) : slW (.sh d) Γ k = k (.sh d) Γ := rfl
@[simp ↓] theorem slW_ow (d : D) (Γ : Ev) (k : Sl → Ev → Prop) : slW (.ow d) Γ k = k (.ow d) Γ := rfl
@[simp ↓] theorem slW_vr (i : Nat) (Γ : Ev) (k : Sl → Ev → Prop) : slW (.vr i) Γ k = frW (.vr i) Γ fun d Γ1 => k (.sh d) Γ1 := rfl
@[simp] theorem hand_0 : hand 0 = 0 := rfl
@[simp] theorem hand_1 : hand 1 = 1 := rfl
@[simp] theorem hand_2 : hand 2 = 2 := rfl
@[simp] theorem hand_3 : hand 3 = 3 := rfl
@[simp] theorem hand_4 : hand 4 = 4 := rfl
@[simp] theorem hand_11 : hand 11 = 1 := rfl
@[simp] theorem hand_12 : hand 12 = 2 := rfl
@[simp] theorem hand_13 : hand 13 = 3 := rfl
@[simp] theorem hand_14 : hand 14 = 4 := rfl
@[simp] theorem same_none : SameIo none none = True := rfl
@[simp] theorem same_io (a b : D) : SameIo (some (.io a)) (some (.io b)) = True := rfl
@[simp] theorem same_op (t u : Nat) (a b : D) : SameIo (some (.op t a)) (some (.op u b)) = (t = u) := rfl
@[simp] theorem ioOf_none (Γ : Ev) : ioOf none Γ = none := rfl
@[simp] theorem ioOf_io (d : D) (t : Sl) (Γ : Ev) : ioOf (some (.io d)) (t :: Γ) = some t := rfl
@[simp] theorem ioOf_op (k : Nat) (d : D) (t : Sl) (Γ : Ev) : ioOf (some (.op k d)) (t :: Γ) = some t := rfl
@[simp] theorem ioOf_two (a b x y : Sl) (Γ : Ev) : ioOf (some (.two a b)) (x :: y :: Γ) = some (.two x y) := rfl
@[simp] theorem same1_io (a b : D) : SameOne (.io a) (.io b) = True := rfl
@[simp] theorem same1_op (t u : Nat) (a b : D) : SameOne (.op t a) (.op u b) = (t = u) := rfl
@[simp] theorem same_two (a b c d : Sl) : SameIo (some (.two a b)) (some (.two c d)) = (SameOne a c ∧ SameOne b d) := rfl
@[simp ↓] theorem retW_sh (d : D) (Γ : Ev) (k : R → Ev → Prop) : retW (.sh d) Γ k = k (.sh d) Γ := rfl
@[simp ↓] theorem retW_ow (d : D) (Γ : Ev) (k : R → Ev → Prop) : retW (.ow d) Γ k = k (.ow d) Γ := rfl
def slRet : Sl → Nat → Ev → (R → Ev → Prop) → Prop
  | .sh d, _, Γ, k => k (.sh d) Γ
  | .ow d, i, Γ, k => k (.ow d) (Γ.set i .no)
  | .op t d, i, Γ, k => 10 ≤ t ∧ k (.op t d) (Γ.set i .no)
  | _, _, _, _ => False
@[simp ↓] theorem slRet_op (t : Nat) (d : D) (i : Nat) (Γ : Ev) (k : R → Ev → Prop) : slRet (.op t d) i Γ k = (10 ≤ t ∧ k (.op t d) (Γ.set i .no)) := rfl
@[simp ↓] theorem retW_op (t : Nat) (d : D) (Γ : Ev) (k : R → Ev → Prop) : retW (.op t d) Γ k = (10 ≤ t ∧ k (.op t d) Γ) := rfl
@[simp ↓] theorem slW_op (t : Nat) (d : D) (Γ : Ev) (k : Sl → Ev → Prop) : slW (.op t d) Γ k = (10 ≤ t ∧ k (.op t d) Γ) := rfl
@[simp ↓] theorem ev_setR_op (i t : Nat) (d : D) (Γ : Ev) (k : Ev → Prop) : setR i (.op t d) Γ k = (10 ≤ t ∧ k (Γ.set i (.op t d))) := rfl
@[simp ↓] theorem slRet_sh (d : D) (i : Nat) (Γ : Ev) (k : R → Ev → Prop) : slRet (.sh d) i Γ k = k (.sh d) Γ := rfl
@[simp ↓] theorem slRet_ow (d : D) (i : Nat) (Γ : Ev) (k : R → Ev → Prop) : slRet (.ow d) i Γ k = k (.ow d) (Γ.set i .no) := rfl
@[simp ↓] theorem retW_vr (i : Nat) (Γ : Ev) (k : R → Ev → Prop) : retW (.vr i) Γ k = getS Γ i fun s => slRet s i Γ k := by
  rw [getS_at]
  unfold retW
  dsimp only
  cases Γ[i]? with
  | none => rfl
  | some s => cases s <;> rfl
theorem pick {l : List D} {r : Int} {k : R → Prop} (h0 : 0 ≤ r) (h : r < (l.length : Int)) (q : ∀ d, d ∈ l → k (.sh d)) : oIx (.list l) (.int r) k := by
  rw [ev_ixl]
  have : atI l r = l[r.toNat]? := by
    unfold atI ixN
    rw [if_pos h0, if_pos h]
    rfl
  have hi : r.toNat < l.length := by omega
  rw [this, List.getElem?_eq_getElem hi]
  exact q _ (List.getElem_mem hi)
end VL

set_option Elab.async false
set_option linter.all false
set_option maxRecDepth 100000
namespace SC
open PySem L2 VL

theorem small {n : Nat} (h : n ≤ 1000000) : n < sizeLine := by rw [sizeLine_eq]; omega
theorem smallE {n : Nat} (h : n ≤ 1000000) : n ≤ sizeLine := by rw [sizeLine_eq]; omega

def isIntD (v : D) (lo : Int) (hi : D) : Bool := match v with
  | .int i => decide (lo ≤ i) && (match hi with
    | .int h => decide (i ≤ h)
    | _ => true)
  | _ => false
abbrev letters : Str := "abcdefghijklmnopqrstuvwxyz"
def letter (c : Nat) : Bool := decide (c ∈ letters.cps.toList)
def nameB (s : Str) : Bool := decide (1 ≤ s.length) && decide (s.length ≤ 8) && s.cps.toList.all letter
end SC

set_option Elab.async false
set_option linter.all false
set_option maxRecDepth 100000
namespace SC
open PySem L2 VL

inductive It where
  | bar (n : Str)
  | mark (n : Str)
  | rep (n : Str) (c : Int)
def It.d : It → D
  | .bar n => .tuple [.str "bar", .str n]
  | .mark n => .tuple [.str "mark", .str n]
  | .rep n c => .tuple [.str "repeat", .str n, .int c]
def sc (l : List It) : List D := l.map It.d
def ok : List Str → List It → Prop
  | _, [] => True
  | ms, .bar n :: r => nameB n = true ∧ ok ms r
  | ms, .mark n :: r => nameB n = true ∧ n ∉ ms ∧ ok (n :: ms) r
  | ms, .rep n c :: r => nameB n = true ∧ n ∈ ms ∧ (1 ≤ c ∧ c < 2 ^ 31) ∧ ok ms r

theorem eqv_str (x y : Str) : PyData.eqv (.str x) (.str y) = (x == y) := by simp only [PyData.eqv]
theorem eqv_int (x y : Int) : PyData.eqv (.int x) (.int y) = (x == y) := by simp only [PyData.eqv]
theorem shaped_str {x : Str} (h : PyData.strOk x = true) : SeqAt.shaped (.str x) = true := by simp [SeqAt.shaped, PyData.canLay0, PyData.depth, h]
theorem sh_bar : SeqAt.shaped (.str "bar") = true := shaped_str (by decide +kernel)
theorem sh_mark : SeqAt.shaped (.str "mark") = true := shaped_str (by decide +kernel)
theorem sh_rep : SeqAt.shaped (.str "repeat") = true := shaped_str (by decide +kernel)
theorem shaped_int (x : Int) : SeqAt.shaped (.int x) = true := by simp [SeqAt.shaped, PyData.canLay0, PyData.depth]
theorem bb : (("bar" : Str) == ("bar" : Str)) = true := by decide
theorem bm : (("bar" : Str) == ("mark" : Str)) = false := by decide
theorem br : (("bar" : Str) == ("repeat" : Str)) = false := by decide
theorem mb : (("mark" : Str) == ("bar" : Str)) = false := by decide
theorem mm : (("mark" : Str) == ("mark" : Str)) = true := by decide
theorem rb : (("repeat" : Str) == ("bar" : Str)) = false := by decide
theorem rm : (("repeat" : Str) == ("mark" : Str)) = false := by decide
theorem rr : (("repeat" : Str) == ("repeat" : Str)) = true := by decide

theorem keyEq_iff (d : D) (k : Key) : keyEq d (kD k) = true ↔ d = kD k := by
  cases k <;> cases d <;> simp [keyEq, kD]
theorem kD_inj {k k' : Key} (h : kD k = kD k') : k = k' := by
  cases k <;> cases k' <;> simp [kD] at h <;> simp [h]
theorem dget_put (ps : List (D × D)) (k k' : Key) (v : D) : dget (dput ps (kD k) v) (kD k') = if k = k' then some v else dget ps (kD k') := by
  unfold dput
  by_cases ha : (ps.any fun p => keyEq p.1 (kD k)) = true
  · rw [if_pos ha]
    unfold dget
    rw [List.find?_map]
    have e : ((fun p : D × D => keyEq p.1 (kD k')) ∘ fun p : D × D => if keyEq p.1 (kD k) = true then (p.1, v) else p) = fun p : D × D => keyEq p.1 (kD k') := by
      funext p
      show keyEq (if keyEq p.1 (kD k) = true then (p.1, v) else p).1 (kD k') = keyEq p.1 (kD k')
      split <;> rfl
    rw [e]
    cases hf : ps.find? fun p => keyEq p.1 (kD k') with
    | none =>
      by_cases hk : k = k'
      · subst hk
        obtain ⟨p, hp, h1⟩ := List.any_eq_true.mp ha
        have := List.find?_eq_none.mp hf p hp
        exact absurd h1 this
      · rw [if_neg hk]; rfl
    | some p =>
      have hp := List.find?_some hf
      have e2 := (keyEq_iff _ _).mp hp
      by_cases hk : k = k'
      · subst hk
        rw [if_pos rfl]
        simp [hp]
      · rw [if_neg hk]
        have : ¬ keyEq p.1 (kD k) = true := fun z => hk (kD_inj (((keyEq_iff _ _).mp z).symm.trans e2))
        simp [this]
  · rw [if_neg ha]
    unfold dget
    rw [List.find?_append]
    by_cases hk : k = k'
    · subst hk
      rw [if_pos rfl]
      have : (ps.find? fun p => keyEq p.1 (kD k)) = none := List.find?_eq_none.mpr fun p hp z => ha (List.any_eq_true.mpr ⟨p, hp, z⟩)
      rw [this]
      have h1 : keyEq (kD k) (kD k) = true := (keyEq_iff _ _).mpr rfl
      simp [h1]
    · rw [if_neg hk]
      have h1 : keyEq (kD k) (kD k') = false := by
        cases q : keyEq (kD k) (kD k') with
        | false => rfl
        | true => exact absurd (kD_inj ((keyEq_iff _ _).mp q)) hk
      simp [h1]
theorem dget_putS (ps : List (D × D)) (x y : Str) (v : D) : dget (dput ps (.str x) v) (.str y) = if x = y then some v else dget ps (.str y) := by
  have := dget_put ps (.inr x) (.inr y) v
  rw [show (kD (.inr x)) = .str x from rfl, show (kD (.inr y)) = .str y from rfl] at this
  rw [this]
  by_cases h : x = y
  · subst h; simp
  · rw [if_neg h, if_neg fun z => h (Sum.inr.inj z)]
theorem dput_len (ps : List (D × D)) (k v : D) : (dput ps k v).length ≤ ps.length + 1 := by
  unfold dput
  split <;> simp
def Marks (ps : List (D × D)) (ms : List Str) : Prop := ∀ n, (dget ps (.str n)).isSome = decide (n ∈ ms)
theorem Marks.put {ps : List (D × D)} {ms : List Str} (h : Marks ps ms) (n : Str) (v : D) : Marks (dput ps (.str n) v) (n :: ms) := by
  intro m
  rw [dget_putS]
  by_cases e : n = m
  · subst e; simp
  · rw [if_neg e, h m]
    have : ¬ m = n := fun z => e z.symm
    simp [this]
end SC

set_option Elab.async false
set_option linter.all false
set_option maxRecDepth 100000
namespace SC
open PySem L2 VL

end SC

set_option Elab.async false
set_option linter.all false
set_option maxRecDepth 100000
namespace SC
open PySem L2 VL

abbrev Sta := (Str → Int) × Int
def stp (p : Sta) : It → Sta
  | .bar _ => (p.1, p.2 + 1)
  | .mark n => (fun m => if m = n then p.2 else p.1 m, p.2)
  | .rep n c => (p.1, p.2 + c * (p.2 - p.1 n))
def st (p : Sta) (l : List It) : Sta := l.foldl stp p
def p0 : Sta := (fun _ => 0, 0)
def run (p : Sta) : List It → List Int
  | [] => [p.2]
  | it :: r => p.2 :: run (stp p it) r
def Bd (p : Sta) (n : Nat) : Prop := 0 ≤ p.2 ∧ p.2 < ((2 ^ (32 * n) : Nat) : Int) ∧ ∀ m, 0 ≤ p.1 m ∧ p.1 m ≤ p.2
theorem Bd.stp {p : Sta} {n : Nat} (h : Bd p n) {it : It} (hc : ∀ m c, it = .rep m c → 1 ≤ c ∧ c < 2 ^ 31) : Bd (stp p it) (n + 1) := by
  obtain ⟨h1, h2, h3⟩ := h
  have e : ((2 ^ (32 * (n + 1)) : Nat) : Int) = 4294967296 * ((2 ^ (32 * n) : Nat) : Int) := by
    have : 2 ^ (32 * (n + 1)) = 2 ^ (32 * n) * 4294967296 := by
      rw [show 32 * (n + 1) = 32 * n + 32 by omega, Nat.pow_add]
    rw [this, Int.natCast_mul]; omega
  cases it with
  | bar m =>
    refine ⟨?_, ?_, fun m => ?_⟩
    · show 0 ≤ p.2 + 1; omega
    · show p.2 + 1 < _; rw [e]; omega
    · have := h3 m; show 0 ≤ p.1 m ∧ p.1 m ≤ p.2 + 1; omega
  | mark m =>
    refine ⟨h1, by show p.2 < _; rw [e]; omega, fun x => ?_⟩
    show 0 ≤ (if x = m then p.2 else p.1 x) ∧ (if x = m then p.2 else p.1 x) ≤ p.2
    have := h3 x
    split <;> omega
  | rep m c =>
    obtain ⟨c1, c2⟩ := hc m c rfl
    have := h3 m
    have l1 : 0 ≤ c * (p.2 - p.1 m) := Int.mul_nonneg (by omega) (by omega)
    have l2 : c * (p.2 - p.1 m) ≤ 2147483648 * p.2 := by
      calc c * (p.2 - p.1 m) ≤ 2147483648 * (p.2 - p.1 m) := Int.mul_le_mul_of_nonneg_right (by omega) (by omega)
        _ ≤ 2147483648 * p.2 := by omega
    refine ⟨?_, ?_, fun x => ?_⟩
    · show 0 ≤ p.2 + c * (p.2 - p.1 m); omega
    · show p.2 + c * (p.2 - p.1 m) < _; rw [e]; omega
    · have := h3 x
      show 0 ≤ p.1 x ∧ p.1 x ≤ p.2 + c * (p.2 - p.1 m); omega
theorem mul_ok {i j : Int} {b : Nat} (hi : i.natAbs < 2 ^ 32) (hj : j.natAbs < 2 ^ b) (h0 : 0 < b) (hb : b ≤ 900000) : CMulW i j := wide_mul (a := 32) (b := b) hi hj (by decide) h0 (by omega)
end SC

set_option Elab.async false
set_option linter.all false
set_option maxRecDepth 100000
namespace SC
open PySem L2 VL

def vis : List It → Int × (Str → Int)
  | [] => (1, fun _ => 0)
  | .bar _ :: r => vis r
  | .mark n :: r => ((vis r).1 - (vis r).2 n, (vis r).2)
  | .rep n c :: r => ((vis r).1 * (c + 1), fun m => if m = n then (vis r).2 m + c * (vis r).1 else (vis r).2 m)
def visL : List It → List Int
  | [] => [1]
  | it :: r => (vis (it :: r)).1 :: visL r
def Vb (p : Int × (Str → Int)) (n : Nat) : Prop := p.1.natAbs ≤ 2 ^ (32 * n) ∧ ∀ m, (p.2 m).natAbs ≤ 2 ^ (32 * n)
theorem vb : ∀ {l : List It} {ms : List Str}, (∀ (i : Nat) n c, l[i]? = some (.rep n c) → 1 ≤ c ∧ c < 2 ^ 31) → Vb (vis l) l.length
  | [], _, _ => ⟨by decide, fun m => by simp [vis]⟩
  | it :: r, ms, h => by
    have ih := vb (l := r) (ms := []) fun i n c e => h (i + 1) n c (by simpa using e)
    obtain ⟨h1, h2⟩ := ih
    have e : 2 ^ (32 * (r.length + 1)) = 2 ^ (32 * r.length) * 4294967296 := by rw [show 32 * (r.length + 1) = 32 * r.length + 32 by omega, Nat.pow_add]
    rw [List.length_cons]
    unfold Vb
    rw [e]
    generalize 2 ^ (32 * r.length) = B at *
    cases it with
    | bar m => exact ⟨by show (vis r).1.natAbs ≤ _; omega, fun x => by have := h2 x; show ((vis r).2 x).natAbs ≤ _; omega⟩
    | mark m =>
      have := h2 m
      exact ⟨by show ((vis r).1 - (vis r).2 m).natAbs ≤ _; omega, fun x => by have := h2 x; show ((vis r).2 x).natAbs ≤ _; omega⟩
    | rep m c =>
      obtain ⟨c1, c2⟩ := h 0 m c rfl
      have l1 : ((vis r).1 * (c + 1)).natAbs ≤ B * 4294967296 := by
        rw [Int.natAbs_mul]
        exact Nat.mul_le_mul h1 (by omega)
      have l2 : (c * (vis r).1).natAbs ≤ 2147483648 * B := by
        rw [Int.natAbs_mul]
        exact Nat.mul_le_mul (by omega) h1
      refine ⟨l1, fun x => ?_⟩
      show (if x = m then (vis r).2 x + c * (vis r).1 else (vis r).2 x).natAbs ≤ _
      have := h2 x
      split <;> omega
def total (l : List It) : Int := (st p0 l).2
theorem sc_length (l : List It) : (sc l).length = l.length := by simp [sc]
end SC

set_option Elab.async false
set_option linter.all false
set_option maxRecDepth 100000
namespace SC
open PySem L2 VL

def StrOk (n : Nat) (d : D) : Prop := ∃ a b c : Int, d = .list [.int a, .int b, .int c] ∧ 0 ≤ a ∧ 0 ≤ b ∧ b < 2 ^ 200 ∧ 0 ≤ c ∧ c ≤ (n : Int)
theorem StrOk.mono {n m : Nat} {d : D} (h : StrOk n d) (l : n ≤ m) : StrOk m d := by
  obtain ⟨a, b, c, e, h1, h2, h3, h4, h5⟩ := h
  exact ⟨a, b, c, e, h1, h2, h3, h4, by omega⟩
theorem bits_le (x : Int) : Builtin.Int.intBits x ≤ x.natAbs.log2 + 1 := by
  unfold Builtin.Int.intBits
  split <;> omega
theorem pow_ok {x : Int} {b : Nat} (h0 : 0 < b) (hb : b ≤ 1000000) (h : x.natAbs < 2 ^ b) : CPowW x 3 := by
  refine ⟨by decide, ?_⟩
  have h1 := bits_le x
  have h2 := PySem.Flt.log2_lt_of h0 h
  have : (2 : Int) ^ 27 = 134217728 := by decide
  rw [this]
  omega
theorem pow10 (n : Int) (h : 0 ≤ n) (h2 : n ≤ 1000) : CPowW 10 n := by
  refine ⟨h, ?_⟩
  have h1 := bits_le 10
  have e : (10 : Int).natAbs.log2 = 3 := by decide
  rw [e] at h1
  have : (2 : Int) ^ 27 = 134217728 := by decide
  rw [this]
  have : (Builtin.Int.intBits 10 : Int) * n ≤ 4 * n := Int.mul_le_mul_of_nonneg_right (by omega) h
  omega
theorem ix3_0 : ixN 3 0 = some 0 := by decide
theorem ix3_2 : ixN 3 2 = some 2 := by decide
theorem div_ok {i j : Int} (h : 0 < j) (h2 : j < 2 ^ 64) : CDivW i j := wide_div (b := 64) h (by omega) (by decide) (by decide)
theorem two {r : Int} (h0 : 0 ≤ r) (h : r < 2) : r = 0 ∨ r = 1 := by omega
end SC

set_option Elab.async false
set_option linter.all false
set_option maxRecDepth 100000
namespace SC
open PySem L2 VL

def mk : List Str → List It → List Str
  | ms, [] => ms
  | ms, .bar _ :: r => mk ms r
  | ms, .mark n :: r => mk (n :: ms) r
  | ms, .rep _ _ :: r => mk ms r
theorem mk_app : ∀ (a b : List It) (ms : List Str), mk ms (a ++ b) = mk (mk ms a) b
  | [], b, ms => rfl
  | it :: a, b, ms => by cases it <;> exact mk_app a b _
theorem ok_app : ∀ (a b : List It) (ms : List Str), ok ms (a ++ b) ↔ ok ms a ∧ ok (mk ms a) b
  | [], b, ms => by simp [ok, mk]
  | it :: a, b, ms => by
    cases it <;> simp [ok, mk, ok_app a b, and_assoc]
theorem name_strOk {s : Str} (h : nameB s = true) : PyData.strOk s = true := by
  unfold nameB at h
  rw [Bool.and_eq_true] at h
  have h := h.2
  unfold PyData.strOk
  rw [← Array.all_toList]
  refine List.all_eq_true.mpr fun c hc => ?_
  have hl : letter c = true := List.all_eq_true.mp h c hc
  have hm : c ∈ letters.cps.toList := of_decide_eq_true hl
  have ha : (letters.cps.toList.all fun c => decide (c < 0x110000)) = true := by decide +kernel
  exact List.all_eq_true.mp ha c hm
theorem eqv_nil (ys : List Str) : PyData.eqv (.list (ys.map .str)) (.list []) = ys.isEmpty := by
  cases ys <;> simp only [PyData.eqv, List.map, PyData.eqvAll] <;> rfl
structure ScI (i : Nat) (l : List It) (ps : List (D × D)) (len : Int) : Prop where
  ok : ok [] l
  ll : l.length ≤ i
  mks : Marks ps (mk [] l)
  ks : ∃ ks : List Str, ps.map (·.1) = ks.map .str ∧ ks.length ≤ i ∧ ∀ n ∈ ks, n ∈ mk [] l ∧ nameB n = true
  vals : ∀ x v, dget ps (.str x) = some v → ∃ j : Int, v = .int j ∧ 0 ≤ j ∧ j ≤ len
  l0 : 0 ≤ len
  l1 : len < ((2 ^ (32 * i) : Nat) : Int)
def c_law_score : WS := wIfS (wAnd (wT (wOp oEq (wVar 9) (wC (.int 3)))) (wT (wOp (oIn true) (wVar 10) (wVar 4)))) (wSeq (wDrop (wMut 3 fAppend (wCons (wTup (wCons (wC (.str "mark")) (wCons (wVar 10) (wNil)))) wNil))) (wDPut 4 (wVar 10) (wVar 5))) (wIfS (wAnd (wT (wOp (oIB fun i j => decide (j < i)) (wVar 9) (wC (.int 3)))) (wAnd (wT (wOp oNe (wVar 13) (wC (.str "")))) (wAnd (wT (wOp (oIB fun i j => decide (j < i)) (wVar 11) (wC (.int 0)))) (wOr (wT (wOp (oIB fun i j => decide (j < i)) (wVar 14) (wC (.int 0)))) (wOr (wT (wOp oEq (wVar 2) (wC (.int 0)))) (wT (wOp (oIB fun i j => decide (i < j)) (wVar 6) (wC (.int 4))))))))) (wSeq (wDrop (wMut 3 fAppend (wCons (wTup (wCons (wC (.str "repeat")) (wCons (wVar 13) (wCons (wIf (wOr (wT (wOp (oIB fun i j => decide (j < i)) (wVar 14) (wC (.int 0)))) (wT (wOp oEq (wVar 2) (wC (.int 0))))) (wVar 11) (wC (.int 1))) (wNil))))) wNil))) (wSet 5 (wOp oAdd (wVar 5) (wOp oMul (wVar 11) (wVar 14))))) (wIfS (wOr (wT (wOp oEq (wVar 2) (wC (.int 0)))) (wT (wOp (oIB fun i j => decide (i < j)) (wVar 5) (wVar 2)))) (wSeq (wDrop (wMut 3 fAppend (wCons (wTup (wCons (wC (.str "bar")) (wCons (wVar 10) (wNil)))) wNil))) (wSet 5 (wOp oAdd (wVar 5) (wC (.int 1))))) (wNext)))
theorem sh_nil : SeqAt.shaped (.list []) = true := by decide +kernel
end SC

set_option Elab.async false
set_option linter.all false
set_option maxRecDepth 100000
namespace VL
open PySem L2

section
variable {P : Program} {w : World} {K : Fg} {H : Hp} {h : Heap}
theorem tup_obj {a : Addr} {items : Array Value} (p : PyProof.Rows.IsTup h a items) : ∃ o n, h.get? a = some o ∧ o.cls = .type "tuple" ∧ o.data = .seq items n := by
  obtain ⟨o, h1, h2, n, h3⟩ := p
  exact ⟨o, n, h1, h2, h3⟩
mutual
theorem Rep.reads (I : HOk P w H h) : ∀ {v : V} {d : D} {u : Value}, Rep K H v d → d.canLay0 = true → RelV v u → ∃ as, Reads h u d as
  | _, _, u, .non, _, r => by cases (show u = .none from r); exact ⟨_, .none⟩
  | _, _, u, .bl b, _, r => by cases (show u = .bool b from r); exact ⟨_, .bool b⟩
  | _, _, u, .int i, _, r => by obtain ⟨t, rfl⟩ := r; exact ⟨_, .int i t⟩
  | _, _, u, .str x, _, r => by obtain ⟨t, rfl⟩ := r; exact ⟨_, .str x t⟩
  | _, _, u, .lst hl rs, e, r => by
    cases (show u = .ref _ from r)
    obtain ⟨_, its, n, rv, ho⟩ := I _ _ hl
    obtain ⟨as, ra⟩ := Reps.reads I rs (by simpa [PyData.canLay0] using e) rv
    exact ⟨_, .list ho rfl rfl (by simpa using ra)⟩
  | _, _, u, .tup hl rs, e, r => by
    cases (show u = .ref _ from r)
    obtain ⟨_, its, rv, ho⟩ := I _ _ hl
    obtain ⟨as, ra⟩ := Reps.reads I rs (by simpa [PyData.canLay0] using e) rv
    obtain ⟨o, n, h1, h2, h3⟩ := tup_obj ho
    exact ⟨_, .tuple h1 h2 h3 (by simpa using ra)⟩
  | _, _, u, .dct hl rs, e, r => by simp [PyData.canLay0] at e
theorem Reps.reads (I : HOk P w H h) : ∀ {vs : List V} {ds : List D} {us : List Value}, Reps K H vs ds → PyData.canLayAll0 ds = true → Vals vs us → ∃ as, ReadsAll h us ds as
  | _, _, _, .nil, _, .nil => ⟨_, .nil⟩
  | _, _, _, .cons h1 r1, e, .cons h2 r2 => by
    have e' := (show _ ∧ _ by simpa [PyData.canLayAll0] using e)
    obtain ⟨as, ra⟩ := Rep.reads I h1 e'.1 h2
    obtain ⟨bs, rb⟩ := Reps.reads I r1 e'.2 r2
    exact ⟨_, .cons ra rb⟩
end
end
section
variable {P : Program} {w : World} {K : Fg} {mg : Str → Option Value}
open PyProof.Rows in
theorem law_run {base : Heap} {x qual y : Str} {params : Arguments} {body : List Stmt} {scope : Scope} {dvs : List V} {kws : List (Str × V)} {f : Addr} {fd : FuncData} {N : List Str} {k : Nat} {ca : Str → Addr} {ws : WS}
    (F : FunD K x qual params body scope dvs kws f fd) (S : FnScope N [y] scope) (hV : FnV fsLaw N.length ws)
    (hb : ∀ (cdv : Value) (s : Shared) (H : Hp) (E : XK), Room k (callerA.deeper (envOfC qual scope s.heap.objs.size f cdv)) →
      ∃ t, PSs (cxOf (L2N.CX P w) P w K mg base N qual scope f cdv callerA [] s H E) body t ∧ SimS ⟨K, OpS K, ca⟩ (fun c d _ H => E c d H) t ws)
    (s : Shared) (H : Hp) (args : Args) (us : List Value) (vs : List V) (Q : VK) (E : XK) (hr : Room (k + 1) callerA) (e0 : Env0 P w K mg base callerA [] s H) (hbd : BindsTo s fd args ([y].zip us)) (r : Vals vs us) (hsp : lift ⟨K, OpS K, ca⟩ fsLaw vs H Q E) :
    codeAny (model P w) callerA (.call (.ref f) args) (CR (L2N.CX P w) [] P w H s Q E) s := by
  obtain ⟨oc, od, dV, kV, doc, pm, an, cdv, ct, osl, rfl, lk, hcd, _, _⟩ := F.ex
  have hl : vs.length = [y].length := lift_len fsLaw_len hsp
  have old : ∀ b o, base.get? b = some o → s.heap.get? b = some o := fun b o e => (e0.bs b o e).1
  have hkind : ∀ z ∈ [y].zip us, scope.names.lookup z.1 = some .local ∨ (scope.names.lookup z.1 = some .cell ∧ ((cellsFrom (s.heap.objs.size + 1) scope.names []).lookup z.1).isSome = true) := by
    rintro ⟨n, v⟩ hz
    rcases S.par n (List.of_mem_zip hz).1 with q | q
    · exact .inl q
    · exact .inr ⟨q, PySem.W.cellsFrom_some _ _ _ (.inl q)⟩
  have KX := e0.mod.kin.keeps old
  refine codeAny_call_function hr.depth (KX _ _ lk) rfl S.co S.gen rfl (PySem.W.codeRec_of KX hcd) (hbd _ _ _ _ ?_)
  refine wpAny_newFunctionEnv_cells S.kind hkind fun env he s1 ic => ?_
  subst he
  refine ⟨(e0.mod.nolimit.keeps old).keeps ic.toInCall.keep, codeAny_func ?_⟩
  obtain ⟨t, ht, hs⟩ := hb cdv s H E (hr.deeper _)
  have I := inv_start (CX := L2N.CX P w) (E := E) S hr.hd e0 hl r ic
  refine wpAny_mono (ht.run [] s1 (start N vs) H _ I (vbody hV hs hsp)) (fun fl s' hs => ?_) fun e s' hs => hs
  cases fl with
  | ret u =>
    obtain ⟨v, σ', H', J, rv, q⟩ := hs
    exact ⟨v, H', J.os, J.bare, J.base, J.hok, rv, q⟩
  | next =>
    obtain ⟨σ', H', J, q⟩ := hs
    exact ⟨.non, H', J.os, J.bare, J.base, J.hok, rfl, q⟩
  | brk =>
    obtain ⟨_, _, _, q⟩ := hs
    exact q.elim
  | cont =>
    obtain ⟨_, _, _, q⟩ := hs
    exact q.elim
end
end VL

set_option Elab.async false
set_option linter.all false
set_option maxRecDepth 100000
set_option maxHeartbeats 2000000
namespace VL
open PySem L2 PyProof.Rows

def LawRuns (P : Program) (w : World) (K : Fg) (mg : Str → Option Value) (base : Heap) (k : Nat) (f : Addr) (fd : FuncData) (y : Str) : Prop :=
  ∀ (s : Shared) (H : Hp) (args : Args) (us : List Value) (vs : List V) (Q : VK) (E : XK), Room k callerA → Env0 P w K mg base callerA [] s H → BindsTo s fd args ([y].zip us) → Vals vs us → lift ⟨K, OpS K, fun _ => 0⟩ fsLaw vs H Q E →
    codeAny (model P w) callerA (.call (.ref f) args) (CR (L2N.CX P w) [] P w H s Q E) s
section
variable {P : Program} {w : World} {K : Fg} {mg mb : Str → Option Value}
end
end VL

set_option Elab.async false
set_option linter.all false
set_option maxRecDepth 100000
namespace VL
open PySem L2

def reord {α : Type} (is : List Nat) (xs : List α) : List α := is.filterMap (xs[·]?)
theorem Vals.reord {vs : List V} {us : List Value} (r : Vals vs us) : ∀ is : List Nat, Vals (reord is vs) (VL.reord is us)
  | [] => .nil
  | i :: is => by
    have ih := Vals.reord r is
    unfold VL.reord at ih ⊢
    rw [List.filterMap_cons, List.filterMap_cons]
    cases e : vs[i]? with
    | none =>
      have : us[i]? = none := by
        rw [List.getElem?_eq_none_iff] at e ⊢
        rw [← r.length]; exact e
      rw [this]; exact ih
    | some v =>
      obtain ⟨u, hu, rv⟩ := r.get e
      rw [hu]
      exact .cons rv ih
theorem Reps.reord {K : Fg} {H : Hp} {vs : List V} {ds : List D} (r : Reps K H vs ds) : ∀ is : List Nat, Reps K H (reord is vs) (VL.reord is ds)
  | [] => .nil
  | i :: is => by
    have ih := Reps.reord r is
    unfold VL.reord at ih ⊢
    rw [List.filterMap_cons, List.filterMap_cons]
    cases e : vs[i]? with
    | none =>
      have : ds[i]? = none := by
        rw [List.getElem?_eq_none_iff] at e ⊢
        rw [← r.length]; exact e
      rw [this]; exact ih
    | some v =>
      obtain ⟨d, hd, rv⟩ := r.get' e
      rw [hd]
      exact .cons rv ih
def wCallKw (fs : FS) (is : List Nat) (m : Nat) (wa : WA) : WE := fun Γ Q X => wa Γ (fun rs Γ1 => frAll rs Γ1 fun ds Γ2 => ds.length = m ∧ fs none (reord is ds) (fun r _ => Q r Γ2) fun x _ => X x Γ2) X
def GdK (P : Program) (wd : World) (G : Gb) (mg : Str → Option Value) (base : Heap) (k : Nat) (x : Str) (fs : FS) (ps ks : List Str) (is : List Nat) : Prop :=
  ∃ (f : Addr) (fd : FuncData), mg x = some (.ref f) ∧ PySem.W.keepIn G.K (.ref f) = true ∧ FnOk P wd G.K mg base (L2N.CX P wd) k f fd ps (lift G fs) ∧ ∀ (s : Shared) (ws : List Value), ws.length = ks.length → BindsTo s fd ⟨[], ks.zip ws⟩ (ps.zip (reord is ws))
theorem GdK.mono {P : Program} {wd : World} {G : Gb} {mg : Str → Option Value} {base : Heap} {k k' : Nat} {x : Str} {fs : FS} {ps ks : List Str} {is : List Nat} (h : GdK P wd G mg base k x fs ps ks is) (l : k ≤ k') : GdK P wd G mg base k' x fs ps ks is :=
  let ⟨f, fd, h1, h2, h3, h4⟩ := h
  ⟨f, fd, h1, h2, h3.mono l, h4⟩
structure DK (X : Cx) (G : Gb) (W : WX) (kws : List Keyword) (t : TA) (w : WA) : Prop where
  pe : PK X kws t
  sim : SimA G W t w
section
variable {X : Cx} {G : Gb} {W : WX} {e : Expr} {te : TE} {we : WE} {pos p kpos : Pos} {t : TA} {w : WA} {kws : List Keyword} {nm : Option Str} {k : Nat} {x : Str} {fs : FS} {ps ks : List Str} {is : List Nat}
end
end VL

set_option Elab.async false
set_option linter.all false
set_option maxRecDepth 100000
namespace SC
open PySem L2 VL

def ins (l : List It) (p : Nat) (n : Str) (c : Int) : List It := l.take p ++ .rep n c :: l.drop p
end SC

set_option Elab.async false
set_option linter.all false
set_option maxRecDepth 100000
namespace SC
open PySem L2 VL

def isMark : It → Str → Bool
  | .mark m, n => m == n
  | _, _ => false
end SC

set_option Elab.async false
set_option linter.all false
set_option maxRecDepth 100000
namespace SC
open PySem L2 VL

def fs_law_integer : FS := fun io ds Q _ => io = none ∧ ∃ a b : Int, ds = [.int a, .int b] ∧ Q (.sh (.bool (a == b))) none
def w_law_integer : WS := wRet (wAndV (wIsi "int" (wVar 0)) (wAndV (wNotV (wIsi "bool" (wVar 0))) (wOp oEq (wVar 0) (wVar 1))))
theorem fv_law_integer : FnV fs_law_integer 2 w_law_integer := by
  rintro io ds Q X ⟨rfl, a, b, rfl, q⟩
  show w_law_integer [.sh (.int a), .sh (.int b)] _ _
  simp [w_law_integer, isT, shaped_int, eqv_int]
  exact q
end SC

set_option Elab.async false
set_option linter.all false
set_option maxRecDepth 100000
namespace SC
open PySem L2 VL

@[simp ↓] theorem ev_wCallKw (fs : FS) (is : List Nat) (m : Nat) (wa : WA) (Γ : Ev) (Q : R → Ev → Prop) (X : XW) : wCallKw fs is m wa Γ Q X = wa Γ (fun rs Γ1 => frAll rs Γ1 fun ds Γ2 => ds.length = m ∧ fs none (reord is ds) (fun r _ => Q r Γ2) fun x _ => X x Γ2) X := rfl
end SC

set_option Elab.async false
set_option linter.all false
set_option maxRecDepth 100000
namespace SC
open PySem L2 VL

theorem b1 : PyData.strOk "bar" = true := by decide +kernel
theorem b2 : PyData.strOk "mark" = true := by decide +kernel
theorem b3 : PyData.strOk "repeat" = true := by decide +kernel
theorem s1 : ("bar" : Str).cps.size = 3 := by decide +kernel
theorem s2 : ("mark" : Str).cps.size = 4 := by decide +kernel
theorem s3 : ("repeat" : Str).cps.size = 6 := by decide +kernel
def It.shows : It → Prop
  | .bar n => nameB n = true
  | .mark n => nameB n = true
  | .rep n c => nameB n = true ∧ 1 ≤ c ∧ c < 2 ^ 31
theorem ok_shows : ∀ {l : List It} {ms : List Str}, ok ms l → ∀ it ∈ l, it.shows
  | [], _, _, _, h => nomatch h
  | x :: l, ms, h, it, hit => by
    rcases List.mem_cons.mp hit with rfl | hm
    · cases it with
      | bar n => exact h.1
      | mark n => exact h.1
      | rep n c => exact ⟨h.1, h.2.2.1⟩
    · cases x with
      | bar n => exact ok_shows h.2 it hm
      | mark n => exact ok_shows h.2.2 it hm
      | rep n c => exact ok_shows h.2.2.2 it hm
def del (l : List It) (i : Nat) : List It := l.take i ++ l.drop (i + 1)
end SC

set_option Elab.async false
set_option linter.all false
set_option maxRecDepth 100000
namespace SC
open PySem L2 VL
def isRep (L : List It) (j : Nat) : Bool := match L[j]? with
  | some (.rep _ _) => true
  | _ => false
def cof (L : List It) (j : Nat) : Int := match L[j]? with
  | some (.rep _ c) => c
  | _ => 0
def stt (L : List It) (j : Nat) : Nat := match L[j]? with
  | some (.rep n _) => L.findIdx (isMark · n) + 1
  | _ => 0
end SC

set_option Elab.async false
set_option linter.all false
set_option maxRecDepth 100000
namespace SC
open PySem L2 VL

def tpS (L : List It) : Nat → List Nat × (Str → Nat)
  | 0 => ([], fun _ => 0)
  | n + 1 => match L[n]? with
    | some (.bar _) => ((tpS L n).1 ++ [n], (tpS L n).2)
    | some (.mark m) => ((tpS L n).1, fun x => if x = m then (tpS L n).1.length else (tpS L n).2 x)
    | some (.rep m c) => ((tpS L n).1 ++ (List.replicate c.toNat ((tpS L n).1.drop ((tpS L n).2 m))).flatten, (tpS L n).2)
    | none => tpS L n
abbrev tp (L : List It) (n : Nat) : List Nat := (tpS L n).1
abbrev ml (L : List It) (n : Nat) : Str → Nat := (tpS L n).2
abbrev tl (L : List It) (n : Nat) : Nat := (tp L n).length
section
variable {L : List It} {n : Nat}
abbrev TT (L : List It) : List Nat := tp L L.length
end
abbrev Sf (f : Nat → Int) (l : List Nat) : Int := (l.map f).sum
def Sb (f : Nat → Int) (L : List It) (t : Nat) : Int := Sf f ((TT L).take t)
section
variable {L : List It} {n : Nat} {f : Nat → Int}
section
variable (h : ok [] L) {m : Str} {c : Int} (e : L[n]? = some (.rep m c)) {j : Nat} (hj : L[j]? = some (.mark m)) (hjn : j < n)
include h e hj hjn
end
end
end SC

set_option Elab.async false
set_option linter.all false
set_option maxRecDepth 100000
namespace SC
open PySem L2 VL

section
variable {L : List It} {n : Nat} {f : Nat → Int}
def Mk (f : Nat → Int) (L : List It) (n : Nat) (m : Str) : Int := Sf f ((tp L n).take (ml L n m))
def Loc (f : Nat → Int) (L : List It) (a : Int) (t : Nat) (r : Int) : Prop := ∃ b, (TT L)[t]? = some b ∧ Sb f L t + r = a ∧ 0 ≤ r ∧ r < f b
end
end SC

set_option Elab.async false
set_option linter.all false
set_option maxRecDepth 100000
namespace VL
open PySem L2

section
variable {g : WG} {b : WS} {Dn : WD} {X : XW} {Γ : Ev}
theorem drop_cons {α : Type} {ds r : List α} {d : α} {n : Nat} (e : ds.drop n = d :: r) : ds[n]? = some d ∧ ds.drop (n + 1) = r ∧ n < ds.length := by
  have h1 : ds[n]? = some d := by
    have := congrArg (·[0]?) e
    simpa using this
  refine ⟨h1, ?_, (List.getElem?_eq_some_iff.mp h1).1⟩
  have := congrArg (List.drop 1) e
  simpa [Nat.add_comm] using this
theorem drop_nil {α : Type} {ds : List α} {n : Nat} (e : ds.drop n = []) : ds.length ≤ n := by simpa using e
theorem loop_inv (I : Nat → Ev → Prop) {ds : List PyData} (h0 : I 0 Γ)
    (hs : ∀ (i : Nat) (d : PyData) (Γ : Ev) (k : Ev → Prop), ds[i]? = some d → I i Γ → (∀ Γ', I (i + 1) Γ' → k Γ') → g d Γ fun Γ1 => b Γ1 ⟨k, Dn.rt, Dn.nx, k⟩ X)
    (hd : ∀ Γ, I ds.length Γ → Dn.nx Γ) : loopW g b Dn X ds Γ := by
  suffices h : ∀ (r : List PyData) (n : Nat) (Γ : Ev), ds.drop n = r → n ≤ ds.length → I n Γ → loopW g b Dn X r Γ from h ds 0 Γ rfl (Nat.zero_le _) h0
  intro r
  induction r with
  | nil =>
    intro n Γ e hn h
    have := drop_nil e
    have : n = ds.length := by omega
    subst this
    exact hd _ h
  | cons d r ih =>
    intro n Γ e hn h
    obtain ⟨h1, h2, h3⟩ := drop_cons e
    exact hs n d Γ _ h1 h fun Γ' h' => ih (n + 1) Γ' h2 h3 h'
theorem loop_mem (I : Ev → Prop) {ds : List PyData} (h0 : I Γ)
    (hs : ∀ (d : PyData) (Γ : Ev) (k : Ev → Prop), d ∈ ds → I Γ → (∀ Γ', I Γ' → k Γ') → g d Γ fun Γ1 => b Γ1 ⟨k, Dn.rt, Dn.nx, k⟩ X)
    (hd : ∀ Γ, I Γ → Dn.nx Γ) : loopW g b Dn X ds Γ :=
  loop_inv (fun _ => I) h0 (fun i d Γ k hi h hk => hs d Γ k (List.mem_of_getElem? hi) h hk) hd
end
section
variable {vs : List Nat} {g : WG} {t : WT} {w wk wv : WE} {k : List D → Ev → Prop} {Γ : Ev}
def lcT (vs : List Nat) (g : WG) (t : WT) (w : WE) (k : List D → Ev → Prop) (d : D) (acc : List D) (Γ : Ev) : Prop :=
  g d Γ fun Γ1 => t Γ1 (fun b Γ2 => if b = true then w Γ2 (fun r Γ3 => frW r Γ3 fun e Γ4 => acc.length < sizeLine ∧ k (acc ++ [e]) (wipeE Γ4 vs)) noX else k acc (wipeE Γ2 vs)) noX
theorem lc_inv (I : Nat → List D → Ev → Prop) {ds : List PyData} (h0 : I 0 [] Γ)
    (hs : ∀ (i : Nat) (d : PyData) (acc : List D) (Γ : Ev) (k : List D → Ev → Prop), ds[i]? = some d → I i acc Γ → (∀ acc' Γ', I (i + 1) acc' Γ' → k acc' Γ') → lcT vs g t w k d acc Γ)
    (hd : ∀ acc Γ, I ds.length acc Γ → k acc Γ) : lcW vs g t w k ds [] Γ := by
  suffices h : ∀ (r : List PyData) (n : Nat) (acc : List D) (Γ : Ev), ds.drop n = r → n ≤ ds.length → I n acc Γ → lcW vs g t w k r acc Γ from h ds 0 [] Γ rfl (Nat.zero_le _) h0
  intro r
  induction r with
  | nil =>
    intro n acc Γ e hn h
    have := drop_nil e
    have : n = ds.length := by omega
    subst this
    exact hd _ _ h
  | cons d r ih =>
    intro n acc Γ e hn h
    obtain ⟨h1, h2, h3⟩ := drop_cons e
    exact hs n d acc Γ (fun acc Γ => lcW vs g t w k r acc Γ) h1 h fun acc' Γ' h' => ih (n + 1) acc' Γ' h2 h3 h'
theorem lc_list {α : Type} (l : List α) (dl : Nat → α → D) (f : Nat → α → List D) (hf : ∀ i a, (f i a).length ≤ 1) (hl : l.length ≤ 1000000)
    (hs : ∀ (i : Nat) (a : α) (acc : List D) (k : List D → Ev → Prop), l[i]? = some a → acc.length < sizeLine → k (acc ++ f i a) Γ → lcT vs g t w k (dl i a) acc Γ)
    (hd : k (l.mapIdx f).flatten Γ) : lcW vs g t w k (l.mapIdx dl) [] Γ := by
  have len : ∀ n, (((l.take n).mapIdx f).flatten).length ≤ n := by
    intro n
    induction n with
    | zero => simp
    | succ n ih =>
      rw [List.take_succ]
      cases e : l[n]? with
      | none => simpa using Nat.le_succ_of_le ih
      | some a =>
        have hn : n < l.length := (List.getElem?_eq_some_iff.mp e).1
        rw [show (some a).toList = [a] from rfl, List.mapIdx_append, List.flatten_append, List.length_append]
        have h1 := hf (0 + (l.take n).length) a
        have h2 : ([a].mapIdx fun i => f (i + (l.take n).length)).flatten = f (0 + (l.take n).length) a := by simp
        rw [h2]
        omega
  refine lc_inv (fun i acc Γ' => acc = ((l.take i).mapIdx f).flatten ∧ Γ' = Γ) ⟨rfl, rfl⟩ ?_ ?_
  · rintro i d acc Γ' k' hi ⟨rfl, rfl⟩ hk
    rw [List.getElem?_mapIdx] at hi
    cases e : l[i]? with
    | none => rw [e] at hi; cases hi
    | some a =>
      rw [e] at hi
      have hil : i < l.length := (List.getElem?_eq_some_iff.mp e).1
      cases (Option.some.inj hi)
      refine hs i a _ k' e (by have := len i; rw [sizeLine_eq]; omega) (hk _ _ ⟨?_, rfl⟩)
      rw [List.take_succ, e, show (some a).toList = [a] from rfl, List.mapIdx_append, List.flatten_append]
      congr 1
      rw [List.length_take, Nat.min_eq_left (by omega)]
      simp
  · rintro acc Γ' ⟨rfl, rfl⟩
    rw [List.length_mapIdx, List.take_of_length_le (Nat.le_refl _)]
    exact hd
theorem lc_filter {α : Type} (l : List α) (dl : Nat → α → D) (f : Nat → α → Option D) (hl : l.length ≤ 1000000)
    (hs : ∀ (i : Nat) (a : α) (acc : List D) (k : List D → Ev → Prop), l[i]? = some a → acc.length < sizeLine → k (acc ++ (f i a).toList) Γ → lcT vs g t w k (dl i a) acc Γ)
    (hd : k ((l.mapIdx f).filterMap id) Γ) : lcW vs g t w k (l.mapIdx dl) [] Γ := by
  refine lc_list l dl (fun i a => (f i a).toList) (fun i a => by cases f i a <;> simp) hl hs ?_
  have : ∀ (l : List α) (f : Nat → α → Option D), (l.mapIdx fun i a => (f i a).toList).flatten = (l.mapIdx f).filterMap id := by
    intro l
    induction l with
    | nil => intro f; rfl
    | cons a l ih => intro f; cases e : f 0 a <;> simp [List.mapIdx_cons, ih, e]
  rw [this]
  exact hd
end
section
variable {vs : List Nat} {g : WG} {t : WT} {wk wv : WE} {k : List (D × D) → Ev → Prop} {Γ : Ev}
end
theorem map_mapIdx {α β : Type} (l : List α) (f : α → β) : l.map f = l.mapIdx fun _ a => f a := by
  induction l with
  | nil => rfl
  | cons a l ih => simp [List.mapIdx_cons, ih]
theorem mapIdx_fm {α : Type} (f : α → Option D) : ∀ l : List α, (l.mapIdx fun _ a => f a).filterMap id = l.filterMap f
  | [] => rfl
  | a :: l => by
    rw [List.mapIdx_cons, List.filterMap_cons, List.filterMap_cons, mapIdx_fm f l]
    rfl
section
variable {vs : List Nat} {g : WG} {t : WT} {w : WE} {k : List D → Ev → Prop} {Γ : Ev} {α : Type}
theorem lcm_some (l : List α) (dl : α → D) (f : α → Option D) (hl : l.length ≤ 1000000)
    (hs : ∀ (a : α) (acc : List D) (k : List D → Ev → Prop), a ∈ l → acc.length < sizeLine → k (acc ++ (f a).toList) Γ → lcT vs g t w k (dl a) acc Γ)
    (hd : k (l.filterMap f) Γ) : lcW vs g t w k (l.map dl) [] Γ := by
  rw [map_mapIdx]
  refine lc_filter l (fun _ a => dl a) (fun _ a => f a) hl (fun i a acc k hi => hs a acc k (List.mem_of_getElem? hi)) ?_
  rw [mapIdx_fm]
  exact hd
theorem lcm_map (l : List α) (dl f : α → D) (hl : l.length ≤ 1000000)
    (hs : ∀ (a : α) (acc : List D) (k : List D → Ev → Prop), a ∈ l → acc.length < sizeLine → k (acc ++ [f a]) Γ → lcT vs g t w k (dl a) acc Γ)
    (hd : k (l.map f) Γ) : lcW vs g t w k (l.map dl) [] Γ :=
  lcm_some l dl (fun a => some (f a)) hl hs (by rw [List.filterMap_eq_map']; exact hd)
theorem filt_fm (q : α → Bool) (dl : α → D) : ∀ l : List α, l.filterMap (fun a => if q a = true then some (dl a) else none) = (l.filter q).map dl
  | [] => rfl
  | a :: l => by
    rw [List.filterMap_cons, List.filter_cons, filt_fm q dl l]
    cases q a <;> simp
theorem lcm_filt (l : List α) (dl f : α → D) (q : α → Bool) (hl : l.length ≤ 1000000)
    (hs : ∀ (a : α) (acc : List D) (k : List D → Ev → Prop), a ∈ l → acc.length < sizeLine → (q a = true → k (acc ++ [f a]) Γ) → (q a = false → k acc Γ) → lcT vs g t w k (dl a) acc Γ)
    (hd : k ((l.filter q).map f) Γ) : lcW vs g t w k (l.map dl) [] Γ := by
  refine lcm_some l dl (fun a => if q a = true then some (f a) else none) hl (fun a acc k ha hz hk => hs a acc k ha hz (fun e => ?_) (fun e => ?_)) ?_
  · rw [if_pos e] at hk; exact hk
  · rw [if_neg (by rw [e]; simp)] at hk; simpa using hk
  · rw [filt_fm]; exact hd
end
end VL

set_option Elab.async false
set_option linter.all false
set_option maxRecDepth 100000
namespace SC
open PySem L2 VL

def e_law_score : WS := wIfS (wOr (wT (wOp oEq (wVar 2) (wC (.int 0)))) (wT (wOp (oIB fun i j => decide (i < j)) (wVar 5) (wVar 2)))) (wSeq (wDrop (wMut 3 fAppend (wCons (wTup (wCons (wC (.str "bar")) (wCons (wVar 10) (wNil)))) wNil))) (wSet 5 (wOp oAdd (wVar 5) (wC (.int 1))))) (wNext)
theorem c_eq : c_law_score = wIfS (wAnd (wT (wOp oEq (wVar 9) (wC (.int 3)))) (wT (wOp (oIn true) (wVar 10) (wVar 4)))) (wSeq (wDrop (wMut 3 fAppend (wCons (wTup (wCons (wC (.str "mark")) (wCons (wVar 10) (wNil)))) wNil))) (wDPut 4 (wVar 10) (wVar 5))) (wIfS (wAnd (wT (wOp (oIB fun i j => decide (j < i)) (wVar 9) (wC (.int 3)))) (wAnd (wT (wOp oNe (wVar 13) (wC (.str "")))) (wAnd (wT (wOp (oIB fun i j => decide (j < i)) (wVar 11) (wC (.int 0)))) (wOr (wT (wOp (oIB fun i j => decide (j < i)) (wVar 14) (wC (.int 0)))) (wOr (wT (wOp oEq (wVar 2) (wC (.int 0)))) (wT (wOp (oIB fun i j => decide (i < j)) (wVar 6) (wC (.int 4))))))))) (wSeq (wDrop (wMut 3 fAppend (wCons (wTup (wCons (wC (.str "repeat")) (wCons (wVar 13) (wCons (wIf (wOr (wT (wOp (oIB fun i j => decide (j < i)) (wVar 14) (wC (.int 0)))) (wT (wOp oEq (wVar 2) (wC (.int 0))))) (wVar 11) (wC (.int 1))) (wNil))))) wNil))) (wSet 5 (wOp oAdd (wVar 5) (wOp oMul (wVar 11) (wVar 14))))) e_law_score) := rfl
structure ScJ (cap : Int) (i : Nat) (l : List It) (ps : List (D × D)) (len : Int) : Prop where
  ok : ok [] l
  ll : l.length ≤ i
  mks : Marks ps (mk [] l)
  ks : ∃ ks : List Str, ps.map (·.1) = ks.map .str ∧ ks.length ≤ i ∧ ∀ n ∈ ks, n ∈ mk [] l ∧ nameB n = true
  vals : ∀ x v, dget ps (.str x) = some v → v = .int ((st p0 l).1 x)
  tot : len = total l
  top : 0 < cap → len ≤ cap
theorem ScJ.up {cap : Int} {i : Nat} {l : List It} {ps : List (D × D)} {len : Int} (h : ScJ cap i l ps len) : ScJ cap (i + 1) l ps len :=
  ⟨h.ok, Nat.le_succ_of_le h.ll, h.mks, let ⟨ks, a, b, c⟩ := h.ks; ⟨ks, a, Nat.le_succ_of_le b, c⟩, h.vals, h.tot, h.top⟩
theorem mk_valid : ∀ {l : List It} {ms : List Str} {n : Str}, SC.ok ms l → (∀ m ∈ ms, nameB m = true) → n ∈ mk ms l → nameB n = true
  | [], ms, n, _, hm, h => hm n h
  | .bar x :: r, ms, n, h, hm, hn => mk_valid h.2 hm hn
  | .rep x c :: r, ms, n, h, hm, hn => mk_valid h.2.2.2 hm hn
  | .mark x :: r, ms, n, h, hm, hn => mk_valid h.2.2 (fun m hmm => by
      rcases List.mem_cons.mp hmm with rfl | z
      · exact h.1
      · exact hm m z) hn
end SC

set_option Elab.async false
set_option linter.all false
set_option maxRecDepth 100000
namespace SC
open PySem L2 VL

end SC

set_option Elab.async false
set_option linter.all false
set_option maxRecDepth 100000
namespace SC
open PySem L2 VL

end SC

set_option Elab.async false
set_option linter.all false
set_option maxRecDepth 100000
namespace VL
open PySem L2

section
variable {X : Cx} {G : Gb}
def oTuple : Op1 := fun d k => match d with
  | .list l => k (.sh (.tuple l))
  | .tuple l => k (.sh (.tuple l))
  | _ => False
@[simp ↓] theorem ev_oTuple_l (l : List D) (k : R → Prop) : oTuple (.list l) k = k (.sh (.tuple l)) := rfl
@[simp ↓] theorem ev_oTuple_t (l : List D) (k : R → Prop) : oTuple (.tuple l) k = k (.sh (.tuple l)) := rfl
def oDivm : Op2 := fun a b k => isI a fun i => isI b fun j => CDivW i j ∧ k (.sh (.tuple [.int (i / j), .int (i % j)]))
@[simp ↓] theorem ev_oDivm (i j : Int) (k : R → Prop) : oDivm (.int i) (.int j) k = (CDivW i j ∧ k (.sh (.tuple [.int (i / j), .int (i % j)]))) := rfl
@[simp ↓] theorem ev_oMul_l (l : List D) (j : Int) (k : R → Prop) : oMul (.list l) (.int j) k = ((-(2 ^ 63) ≤ j ∧ j < 2 ^ 63) ∧ l.length * j.toNat ≤ sizeLine ∧ k (.ow (.list (List.replicate j.toNat l).flatten))) := rfl
end
end VL

set_option Elab.async false
set_option linter.all false
set_option maxRecDepth 100000
namespace SC
open PySem L2 VL

structure Wt (f : Nat → Int) (L : List It) (w : Nat) : Prop where
  lo : ∀ i, 0 ≤ f i
  hi : ∀ i, f i ≤ 2 ^ w
  sz : w + 31 * L.length ≤ 9000
end SC

set_option Elab.async false
set_option linter.all false
set_option maxRecDepth 100000
namespace SC
open PySem L2 VL

end SC

set_option Elab.async false
set_option linter.all false
set_option maxRecDepth 100000
namespace SC
open PySem L2 VL

def plays (L : List It) (b t : Nat) : Nat := ((TT L).take t).count b
end SC

set_option Elab.async false
set_option linter.all false
set_option maxRecDepth 100000
namespace VL
open PySem L2

def dmerge (kvs : List (Key × D)) (acc : List (D × D)) : List (D × D) := kvs.foldl (fun acc p => dput acc (kD p.1) p.2) acc
end VL

set_option Elab.async false
set_option linter.all false
set_option maxRecDepth 100000
namespace SC
open PySem L2 VL

end SC

set_option Elab.async false
set_option linter.all false
set_option maxRecDepth 100000
namespace SC
open PySem L2 VL

end SC

set_option Elab.async false
set_option linter.all false
set_option maxRecDepth 100000
namespace VL
open PySem PySem.Spec L2 PyProof.Rows

section
variable {P : Program} {w : World} {A : Around} {E : Value → Shared → Prop} {s : Shared}
set_option maxHeartbeats 4000000 in
end
end VL

set_option Elab.async false
set_option linter.all false
set_option maxRecDepth 100000
namespace VL
open PySem PySem.Spec L2 PyProof.Rows

section
variable {X : Cx} {G : Gb} {W : WX} {C : Cf} {Hi H H' : Hp} {σ : St} {Γ : Ev}
def oSortSet : Op1 := fun d k => isL d fun l => ∃ ns : List Int, l = ns.map .int ∧ ns.length < 63 ∧ ∀ ns' : List Int, ns'.Pairwise (· < ·) → (∀ x, x ∈ ns' ↔ x ∈ ns) → k (.ow (.list (ns'.map .int)))
def tyD (T : String) (d : D) : Prop := match d with
  | .str _ => T = "str"
  | .int _ => T = "int"
  | .list _ => T = "list"
  | _ => False
abbrev OpMR := D → List D → (R → Prop) → Prop
def wMR (T : String) (o : OpMR) (wo : WE) (wa : WA) : WE := fun Γ Q X => wo Γ (fun r Γ1 => rdW r Γ1 fun d => tyD T d ∧ wa Γ1 (fun rs Γ2 => rdW r Γ2 fun d => rdAll rs Γ2 fun ds => o d ds fun r' => Q r' Γ2) X) X
def wMR0 (T : String) (o : OpMR) (wo : WE) : WE := fun Γ Q X => wo Γ (fun r Γ1 => rdW r Γ1 fun d => tyD T d ∧ o d [] fun r' => Q r' Γ1) X
def oCnt : OpMR := fun d ds k => match ds with
  | [e] => isL d fun l => isI e fun i => ∃ ns : List Int, l = ns.map .int ∧ k (.sh (.int (ns.count i : Nat)))
  | _ => False
@[simp ↓] theorem ev_wMR (T : String) (o : OpMR) (wo : WE) (wa : WA) (Γ : Ev) (Q : R → Ev → Prop) (X : XW) : wMR T o wo wa Γ Q X = (wo Γ (fun r Γ1 => rdW r Γ1 fun d => tyD T d ∧ wa Γ1 (fun rs Γ2 => rdW r Γ2 fun d => rdAll rs Γ2 fun ds => o d ds fun r' => Q r' Γ2) X) X) := rfl
@[simp ↓] theorem ev_wMR0 (T : String) (o : OpMR) (wo : WE) (Γ : Ev) (Q : R → Ev → Prop) (X : XW) : wMR0 T o wo Γ Q X = (wo Γ (fun r Γ1 => rdW r Γ1 fun d => tyD T d ∧ o d [] fun r' => Q r' Γ1) X) := rfl
@[simp] theorem tyD_l (l : List D) : tyD "list" (.list l) = True := by simp [tyD]
@[simp] theorem tyD_s (l : Str) : tyD "str" (.str l) = True := by simp [tyD]
@[simp ↓] theorem ev_cnt (l : List D) (i : Int) (k : R → Prop) : oCnt (.list l) [.int i] k = ∃ ns : List Int, l = ns.map .int ∧ k (.sh (.int (ns.count i : Nat))) := rfl
@[simp ↓] theorem ev_sortset (l : List D) (k : R → Prop) : oSortSet (.list l) k = ∃ ns : List Int, l = ns.map .int ∧ ns.length < 63 ∧ ∀ ns' : List Int, ns'.Pairwise (· < ·) → (∀ x, x ∈ ns' ↔ x ∈ ns) → k (.ow (.list (ns'.map .int))) := rfl
end
end VL

set_option Elab.async false
set_option linter.all false
set_option maxRecDepth 100000
namespace SC
open PySem L2 VL

theorem rounds' (c : Int) (hc : 1 ≤ c) (n : Nat) : ∃ m : Nat, (if (1 : Int) < (if (n : Int) < c then (n : Int) else c) then (if (n : Int) < c then (n : Int) else c) else 1) = (m : Int) ∧ (m : Int) ≤ c := by
  refine ⟨(if (1 : Int) < (if (n : Int) < c then (n : Int) else c) then (if (n : Int) < c then (n : Int) else c) else 1).toNat, ?_, ?_⟩
  · repeat' split
    all_goals omega
  · repeat' split
    all_goals omega
end SC

set_option Elab.async false
set_option linter.all false
set_option maxRecDepth 100000
namespace SC
open PySem L2 VL

end SC

set_option Elab.async false
set_option linter.all false
set_option maxRecDepth 100000
namespace VL
open PySem L2

def fltP : D → Prop
  | .int _ => True
  | .str _ => True
  | .bool _ => True
  | .none => True
  | _ => False
section
variable {K : Fg} {H H' : Hp}
theorem Rep.flat {v : V} {d : D} (h : Rep K H v d) (f : fltP d) : Rep K H' v d := by
  cases h with
  | non => exact .non
  | bl b => exact .bl b
  | int i => exact .int i
  | str z => exact .str z
  | lst _ _ => exact f.elim
  | tup _ _ => exact f.elim
  | dct _ _ => exact f.elim
theorem Reps.flat : ∀ {vs : List V} {ds : List D}, Reps K H vs ds → (∀ e ∈ ds, fltP e) → Reps K H' vs ds
  | _, _, .nil, _ => .nil
  | _, _, .cons h r, f => .cons (h.flat (f _ List.mem_cons_self)) (Reps.flat r fun e he => f e (List.mem_cons_of_mem _ he))
theorem RepKV.flat : ∀ {kvs : List (Key × V)} {ps : List (D × D)}, RepKV K H kvs ps → (∀ p ∈ ps, fltP p.2) → RepKV K H' kvs ps
  | _, _, .nil, _ => .nil
  | _, _, .cons h r, f => .cons (h.flat (f _ List.mem_cons_self)) (RepKV.flat r fun e he => f e (List.mem_cons_of_mem _ he))
end
def ΓK (Γ : Ev) (i : Nat) (ps : List (D × D)) : Ev := (Γ.map fun _ => Sl.no).set i (.sh (.dict ps))
def wLcK (i : Nat) (vs : List Nat) (g : WG) (t : WT) (w : WE) : WE := fun Γ Q X => match Γ[i]? with
  | some (.sh (.dict ps)) => (∀ p ∈ ps, fltP p.2) ∧ okW (ΓK Γ i ps) vs ∧ lcW vs g t w (fun acc _ => (∀ e ∈ acc, fltP e) ∧ Q (.ow (.list acc)) Γ) (ps.map (·.1)) [] (wipeE (ΓK Γ i ps) vs)
  | _ => False
section
variable {G : Gb} {W : WX} {g : TG} {wg : WG} {tt : TT} {wt : WT} {te : TE} {we : WE} {vs : List Nat} {C : Cf} {Hi H H' HL : Hp} {σ : St} {Γ : Ev}
end
section
variable {X : Cx} {G : Gb} {W : WX} {tg e : Expr} {ifs : List Expr} {scope : Scope} {own : List (Str × Nat)} {pos p : Pos} {g : TG} {wg : WG} {tt : TT} {wt : WT} {te : TE} {we : WE}
end
end VL

set_option Elab.async false
set_option linter.all false
set_option maxRecDepth 100000
namespace SC
open PySem L2 VL

end SC

set_option Elab.async false
set_option linter.all false
set_option maxRecDepth 100000
namespace SC
open PySem L2 VL

def WD (ps : List (D × D)) : Prop := ∀ p ∈ ps, ∃ (nm : Str) (i : Int), p = (.str nm, .int i) ∧ nameB nm = true ∧ 0 ≤ i ∧ i ≤ 1000000000000
def gw (ps : List (D × D)) (nm : Str) : Int := match dget ps (.str nm) with
  | some (.int i) => i
  | _ => 0
theorem dget_mem {ps : List (D × D)} {k v : D} (h : dget ps k = some v) : ∃ p ∈ ps, p.2 = v := by
  unfold dget at h
  cases e : ps.find? fun p => keyEq p.1 k with
  | none => rw [e] at h; cases h
  | some p =>
    rw [e] at h
    exact ⟨p, List.mem_of_find?_eq_some e, Option.some.inj h⟩
theorem WD.get {ps : List (D × D)} (h : WD ps) {k v : D} (e : dget ps k = some v) : ∃ i : Int, v = .int i ∧ 0 ≤ i ∧ i ≤ 1000000000000 := by
  obtain ⟨p, hp, rfl⟩ := dget_mem e
  obtain ⟨nm, i, rfl, _, h0, h1⟩ := h p hp
  exact ⟨i, rfl, h0, h1⟩
theorem WD.getD {ps : List (D × D)} (h : WD ps) (nm : Str) : (dget ps (.str nm)).getD (.int 0) = .int (gw ps nm) ∧ 0 ≤ gw ps nm ∧ gw ps nm ≤ 1000000000000 := by
  unfold gw
  cases e : dget ps (.str nm) with
  | none => exact ⟨rfl, by decide, by decide⟩
  | some v =>
    obtain ⟨i, rfl, h0, h1⟩ := h.get e
    exact ⟨rfl, h0, h1⟩
theorem WD.put {ps : List (D × D)} (h : WD ps) {nm : Str} {i : Int} (hn : nameB nm = true) (h0 : 0 ≤ i) (h1 : i ≤ 1000000000000) : WD (dput ps (.str nm) (.int i)) := by
  intro p hp
  unfold dput at hp
  split at hp
  · obtain ⟨q, hq, rfl⟩ := List.mem_map.mp hp
    obtain ⟨m, j, rfl, a, b, c⟩ := h q hq
    split
    · exact ⟨m, i, rfl, a, h0, h1⟩
    · exact ⟨m, j, rfl, a, b, c⟩
  · rcases List.mem_append.mp hp with z | z
    · exact h p z
    · have : p = (.str nm, .int i) := by simpa using z
      exact ⟨nm, i, this, hn, h0, h1⟩
@[simp] theorem ev_wLcK (i : Nat) (vs : List Nat) (g : WG) (t : WT) (w : WE) (Γ : Ev) (Q : R → Ev → Prop) (X : XW) (ps : List (D × D)) (h : Γ[i]? = some (.sh (.dict ps))) :
    wLcK i vs g t w Γ Q X = ((∀ p ∈ ps, fltP p.2) ∧ okW (ΓK Γ i ps) vs ∧ lcW vs g t w (fun acc _ => (∀ e ∈ acc, fltP e) ∧ Q (.ow (.list acc)) Γ) (ps.map (·.1)) [] (wipeE (ΓK Γ i ps) vs)) := by
  unfold wLcK
  rw [h]
end SC

set_option Elab.async false
set_option linter.all false
set_option maxRecDepth 100000
namespace SC
open PySem L2 VL

def nmA (l : List It) (b : Nat) : Str := match l[b]? with
  | some (.bar m) => m
  | _ => ""
def nmL (l : List It) (n : Nat) : List Str := (tp l n).map (nmA l)
section
variable {l : List It} {n : Nat}
end
end SC

set_option Elab.async false
set_option linter.all false
set_option maxRecDepth 100000
namespace SC
open PySem L2 VL

theorem toList_inj {α : Type} {x y : Option α} (h : x.toList = y.toList) : x = y := by
  cases x <;> cases y <;> simp_all
end SC

set_option Elab.async false
set_option linter.all false
set_option maxRecDepth 100000
namespace VL
open PySem L2

theorem takes0N {X : Cx} : L2N.Takes X (fun _ _ _ _ => False) := fun _ _ x => by
  obtain ⟨_, _, _, _, _, _, _, _, _, _, _, _, _, _, _, _, z⟩ := x
  exact z.elim
structure ExF (K : Fg) (mg : Str → Option Value) (ca : Str → Addr) (nm : Str) : Prop where
  g : mg nm = some (.ref (ca nm))
  e : PySem.W.excIn K (ca nm) He.veBase "ValueError.__new__" = true
  k : PySem.W.keepIn K (.ref (ca nm)) = true
  s : PySem.W.subIn K (.ref (ca nm)) (.type "BaseException") = some true
  t : PySem.W.typeIn K (.ref (ca nm)) = some (.type "type")
theorem ExF.of {K : Fg} {h : Heap} {mg : Str → Option Value} {nm : Str} (X : K.In h) (G : h.Ns mainGlobals mg) (c1 : (He.Fa.glo nm).ok K = true) (c2 : (He.Fa.exc nm).ok K = true) : ExF K mg (He.ga K) nm :=
  let ⟨a, b, c, d⟩ := He.exc_ok c2
  ⟨He.glo_ok X G c1, a, b, c, d⟩
def wRaise (nm : Str) : WS := fun Γ _ X => X ⟨nm, none⟩ Γ
section
variable {X : Cx} {G : Gb} {W : WX} {nm m : Str} {j : Nat} {p p2 pos pos' : Pos}
end
end VL

set_option Elab.async false
set_option linter.all false
set_option maxRecDepth 100000
namespace VL
open PySem PySem.Spec PyProof.Rows L2

theorem inv_track {X : Cx} {pins : List (Addr × Obj)} {σ : St} {H : Hp} {s : Shared} {a : Addr} {o : HO} (I : Inv X pins σ H s) (z : X.s_0.heap.get? a = none) (na : H a = none) (nl : a ≠ X.env.locals)
    (nc : ∀ y b, X.env.cells.lookup y = some b → b ≠ a) (np : ∀ q ∈ X.pn ++ pins, q.1 ≠ a) (new : ObjOk X.prog X.w (upd H a o) s.heap a o) : Inv X pins σ (upd H a o) s where
  ok := I.ok
  os := I.os
  bare := I.bare
  base := {
    keep := I.base.keep
    slot := I.base.slot
    free := fun b u e n hx => by
      rw [upd_ne (fun q => by rw [q, z] at e; cases e)]
      exact I.base.free b u e n hx
    there := I.base.there
    tups := fun b xs e => by
      have e1 := I.base.tups b xs e
      rw [upd_ne (ne_of_none e1 na)]; exact e1
    frzs := fun b u v e => by
      have e1 := I.base.frzs b u v e
      rw [upd_ne (ne_of_none e1 na)]; exact e1
    tbls := fun b ps e => by
      obtain ⟨m, e1⟩ := I.base.tbls b ps e
      exact ⟨m, by rw [upd_ne (ne_of_none e1 na)]; exact e1⟩ }
  loc := I.loc
  cell := I.cell
  free := by rw [upd_ne (Ne.symm nl)]; exact I.free
  freeC := fun y b e => by rw [upd_ne (nc y b e)]; exact I.freeC y b e
  pin := fun q hq => by
    obtain ⟨p1, p2, p3⟩ := I.pin q hq
    exact ⟨p1, by rw [upd_ne (np q hq)]; exact p2, p3⟩
  hok := I.hok.laidN (fun _ _ e => e) na new
  len := I.len

def endsK (i : Nat) (D : Ends) : Ends where
  nx := fun σ H => D.nx (σ.set i none) H
  rt := D.rt
  bk := fun σ H => D.bk (σ.set i none) H
  ct := fun σ H => D.ct (σ.set i none) H
def wKp (K : Fg) (c : Value) (i : Nat) (ts : Addr → TS) (D : Ends) : WX := fun cls d σ H =>
  PySem.W.exmOne K cls c = some true ∧ ∀ a, H a = none → ts a (endsK i D) (σ.set i (some (.ref a))) (upd H a (KpD cls d a))
section
variable {X : Cx} {y n : Str} {c : Value} {i : Nat} {blk su : List Stmt} {s1 : Stmt} {q1 q2 q3 : Pos} {tb : WX → TS} {ts : Addr → TS}
theorem ps_try_keep (hst : X.stack = X.env :: X.outer) (hfr : X.env.frame = some X.env.locals) (nd : X.N.Nodup) (hn : X.N[i]? = some n) (hl : X.env.kindOf n = some .local) (hc : Names X y c) (hex : X.ex = [])
    (hb : ∀ (W : WX) (ps : List (Addr × Obj)) (xw : Value → Shared → Prop), L2N.Takes (X.tr ps xw) W → PSs (X.tr ps xw) blk (tb W))
    (hu : ∀ (a : Addr) (ps : List (Addr × Obj)), PSs (X.suite a ps) (s1 :: su) (ts a)) :
    PS X (.Try blk [.ExceptHandler (some (.Name y q1)) (some n) (s1 :: su) q2] [] [] q3) (fun D σ H => tb (wKp X.K c i ts D) D σ H) := by
  constructor
  intro pins s σ H D I h
  have okX := I.ok
  have frm : X.A.frames = some (X.env :: X.outer) := by rw [okX.frames, hst]
  refine wpAny_Try_except ?_
  let back : Value → Shared → Prop := fun e t1 => wpAny (model X.prog X.w) X.A (noteFrame e X.env) (fun _ t2 => wpAny (model X.prog X.w) X.A (setFlight e none)
    (fun _ t3 => wpAny (model X.prog X.w) X.A (handleBy e X.env [.ExceptHandler (some (.Name y q1)) (some n) (s1 :: su) q2]) (SP X pins D) X.xe t3) X.xe t2) X.xe t1
  have caught : L2N.Takes (X.tr (X.pn ++ pins) back) (wKp X.K c i ts D) := by
    rintro u t ⟨a, B, sI, pins1, σ1, H1, cls, d, rfl, J0, inB, upS, sk, na, hos, hag, hm, yes⟩
    have J : Inv X pins σ1 H1 sI := J0.ofTry okX
    have sk1 : Sky B (X.env :: X.outer) a (L2N.Zn cls d) X.env.locals t.heap := by
      rw [← hst]; exact sk
    show wpAny (model X.prog X.w) X.A (noteFrame (.ref a) X.env) _ _ _
    refine L2N.Sky.land L2N.Zn.steady frm hfr sk1 fun g3 f3 u3 => ?_
    have J3 := J.landed (s' := { t with heap := g3 }) inB f3.1 (upS.trans u3) hos hag
    obtain ⟨o3, v3, e3, z3, d3⟩ := f3.there
    -- the exception is no frame
    have out : a ∉ frs (X.env :: X.outer) := fun hm => by
      obtain ⟨_, o4, e4, no⟩ := f3.2.2.1.mem hm
      rw [e3] at e4
      cases e4
      exact no _ d3
    have nl : a ≠ X.env.locals := fun e => out (List.mem_filterMap.mpr ⟨X.env, List.mem_cons_self, by rw [hfr, e]⟩)
    have nf : a ∉ X.fs := fun hm => by
      obtain ⟨e, he, e'⟩ := List.mem_filterMap.mp hm
      exact out (List.mem_filterMap.mpr ⟨e, List.mem_cons_of_mem _ he, e'⟩)
    -- .. and came up in the body
    have newI : sI.heap.get? a = none := by
      cases e : sI.heap.get? a with
      | none => rfl
      | some o =>
        have z := inB a o e (by rw [show (X.tr (X.pn ++ pins) back).stack = X.stack from rfl, hst]; exact out)
        rw [f3.2.1] at z
        cases z
    have new0 : X.s_0.heap.get? a = none := by
      cases e : X.s_0.heap.get? a with
      | none => rfl
      | some o =>
        obtain ⟨o', z⟩ := J.base.there a o e (by rw [hex]; exact fun z => nomatch z)
        rw [newI] at z
        cases z
    have nc : ∀ w b, X.env.cells.lookup w = some b → b ≠ a := fun w b e z => by
      obtain ⟨v, o, z1, _⟩ := J.cell w b e
      rw [z, newI] at z1
      cases z1
    have np : ∀ q ∈ X.pn ++ pins, q.1 ≠ a := fun q hq z => by
      have z1 := (J.pin q hq).1
      rw [z, newI] at z1
      cases z1
    have S3 := J3.suite e3 d3 na nl nf
    refine wpAny_handleBy_cons (codeAny_handlers_test ?_) (fun q => nomatch q)
    have tyA : PySem.W.Looks (model X.prog X.w) g3 (typeOf (.ref a)) cls := fun _ _ _ _ k q => wpAny_typeOf_ref (k _ _ e3) (by rw [z3.1]; exact q)
    have fits := PySem.W.exm_one (M := model X.prog X.w) J3.kIn tyA hm
    have named : ∀ {Q E : Value → Shared → Prop}, Q c { t with heap := g3 } → wpAny (model X.prog X.w) (X.A.mark (some (.ref a))) (eval (.Name y q1) X.env) Q E { t with heap := g3 } := fun q => by
      obtain ⟨gl, nb, m | ⟨m, bb, nn⟩⟩ := hc
      · exact ld_glob (X := X.suite a ((a, o3) :: (X.pn ++ pins))) S3 gl m q nb
      · exact ld_blt (X := X.suite a ((a, o3) :: (X.pn ++ pins))) S3 gl m bb q nn nb
    refine named (fits.here (codeAny_handlers_suite_as (HandSPX.lands_againZ f3 fun g4 f4 u4 => ?_)))
    have J4 := J.landed (s' := { t with heap := g4 }) inB f4.1 ((upS.trans u3).trans u4) hos hag
    obtain ⟨o4, v4, e4, z4, d4⟩ := f4.there
    have T4 := inv_track (o := KpD cls d a) J4 new0 na nl nc np (kpD_ok e4 z4 d4)
    have S4 : Inv (X.suite a (X.pn ++ pins)) [] σ1 (upd H1 a (KpD cls d a)) { t with heap := g4 } :=
      ⟨okX.suite _ _, T4.os, T4.bare, T4.base, T4.loc, T4.cell, T4.free, T4.freeC, fun p hp => T4.pin p (by rw [List.append_nil] at hp; exact hp), T4.hok, T4.len⟩
    refine store_ok (X := X.suite a (X.pn ++ pins)) (v := .ref a) S4 nd hn (.inl hl) rfl (fun s5 S5 => ?_) (.inr hl)
    refine wpAny_mono ((hu a (X.pn ++ pins)).run [] s5 _ _ _ S5 (yes a na)) (fun f s6 r => ?_) (fun _ _ z => False.elim z)
    have gone : ∀ {σ6 : St} {H6 : Hp} {Q : Shared → Prop}, Inv (X.suite a (X.pn ++ pins)) [] σ6 H6 s6 → (∀ s7, Inv X pins (σ6.set i none) H6 s7 → Q s7) →
        wpAny (model X.prog X.w) X.A (do bindName X.env n .none; unbindBehindTheSuite X.env n q2) (fun _ s7 => Q s7) X.xe s6 := fun S6 k =>
      gone_ok ⟨okX, S6.os, S6.bare, S6.base, S6.loc, S6.cell, S6.free, S6.freeC, fun p hp => S6.pin p (List.mem_append_left _ hp), S6.hok, S6.len⟩ nd hn hl k
    cases f with
    | next => obtain ⟨_, _, S6, r⟩ := r; exact gone S6 fun _ J7 => ⟨_, _, J7, r⟩
    | brk => obtain ⟨_, _, S6, r⟩ := r; exact gone S6 fun _ J7 => ⟨_, _, J7, r⟩
    | cont => obtain ⟨_, _, S6, r⟩ := r; exact gone S6 fun _ J7 => ⟨_, _, J7, r⟩
    | ret u => obtain ⟨_, _, _, S6, rv, r⟩ := r; exact gone S6 fun _ J7 => ⟨_, _, _, J7, rv, r⟩
  refine wpAny_mono ((hb _ _ _ caught).run [] s σ H D (I.toTry _) h) (fun f s1 r => ?_) (fun _ _ z => z)
  cases f with
  | next => obtain ⟨_, _, J, r⟩ := r; exact wpAny_execs_nil ⟨_, _, J.ofTry okX, r⟩
  | brk => obtain ⟨_, _, J, r⟩ := r; exact ⟨_, _, J.ofTry okX, r⟩
  | cont => obtain ⟨_, _, J, r⟩ := r; exact ⟨_, _, J.ofTry okX, r⟩
  | ret u => obtain ⟨_, _, _, J, rv, r⟩ := r; exact ⟨_, _, _, J.ofTry okX, rv, r⟩
end
end VL

set_option Elab.async false
set_option linter.all false
set_option maxRecDepth 100000
namespace VL
open PySem PySem.Spec PyProof.Rows L2

section
open PySem.W PySem.Calls
variable {prog : Program} {w : World} {A : Around} {E : Value → Shared → Prop} {s : Shared} {K : Fg} {x D : Addr} {ox : Obj} {od : Option Obj}
theorem cls_found {C : Addr} {nm : Str} {a g : Value} (hc : (clsIn K C).isSome = true) (ha : findIn K (.ref C) nm = some (some a)) (hg : specialIn K a "__get__" = some (some g)) (ht : takesIn K a = some true) : findObj K C od nm = some (.bind g a) := by
  cases e : clsIn K C with
  | none => rw [e] at hc; cases hc
  | some cd =>
    unfold findObj
    rw [e, Option.bind_some, ha, Option.bind_some]
    simp [hg, ht]
theorem cls_of_exc {Q : Option Value → Shared → Prop} (c : ExcC K D) (X : K.In s.heap) (I : InstAt s.heap x ox D od) (h : Q (some (.ref D)) { s with toks := s.toks + 1 }) : wpAny (model prog w) A (getAttr? (.ref x) "__class__") Q E s := by
  have hcl : (clsIn K D).isSome = true := by
    obtain ⟨cd, e, _⟩ := any_some c.hd
    rw [e]; rfl
  have hf := cls_found (od := od) hcl c.ha c.hn c.ht
  obtain ⟨hp, g, d, t, os⟩ := s
  have LT := I.type (M := model prog w)
  have LG := looks_findIn (M := model prog w) X c.hg
  have LK := looks_findIn (M := model prog w) X c.hk
  have LF := looks_find (M := model prog w) X I hf
  have LS : Looks (model prog w) hp (isInstance (.ref x) (.type "BaseException")) true := LT.andThen (looks_subIn X c.hs)
  have n2 : (Value.builtin "BaseException.__getattribute__" == Value.builtin "object.__getattribute__") = false := by decide +kernel
  have n1 : (onTheHeap (Value.ref D) && Value.builtin "BaseException.__getattribute__" == Value.builtin "object.__getattribute__") = false := by rw [n2]; rfl
  unfold getAttr? getAttrBy? getAttrBy
  refine wpAny_bind (wpAny_mkText (wpAny_bind (wpAny_attempt (wpAny_holding (wpAny_bind (LT.at (wpAny_bind (LG.at ?_))))))))
  show wpAny _ _ (if (onTheHeap (Value.ref D) && Value.builtin "BaseException.__getattribute__" == Value.builtin "object.__getattribute__") = true then _ else _) _ _ _
  rw [n1, if_neg Bool.false_ne_true]
  unfold getAttrByItsOwn hookBefore
  refine wpAny_bind ?_
  rw [if_pos (show onTheHeap (Value.ref D) = true from rfl)]
  refine LK.at (wpAny_bind (wpAny_attempt (wpAny_holding ?_)))
  unfold callGetattribute
  rw [show (false && onTheHeap (Value.builtin "BaseException.__getattribute__")) = false from rfl, if_neg Bool.false_ne_true]
  unfold boundAndCalled
  rw [PySem.F.excAttr_ValueError.ga.bind (.ref x)]
  refine wpAny_bind (wpAny_pure ?_)
  show wpAny _ _ (call (.builtin "BaseException.__getattribute__") [.ref x, .str "__class__" t]) _ _ _
  refine wpAny_call (codeAny_call_builtin PySem.F.excAttr_ValueError.ga.plain PySem.F.entry_bexc_ga ?_)
  refine @check_slot (model prog w) _ _ ⟨hp, g, d, t + 1, os⟩ "BaseException.__getattribute__" "BaseException" "__getattribute__" (.ref x) [.str "__class__" t] [] _ (by decide +kernel) (by decide +kernel) LS (PySem.F.args_bexc_ga (.ref x) (.str "__class__" t)) ?_
  unfold Builtin.«object.__getattribute__»
  refine wpAny_bind (wpAny_of_eq (a := ((Value.ref x : Value), [Value.str "__class__" t])) (by first | rfl | (simp only [slotArgs]; rfl)) ?_)
  refine wpAny_bind (wpAny_pure (wpAny_bind (LT.at (wpAny_bind (LF.at ?_)))))
  show wpAny _ _ (holding [Value.builtin "object.__class__"] (call (.builtin "getset_descriptor.__get__") [.builtin "object.__class__", .ref x, .ref D]) >>= ret) _ _ _
  refine wpAny_bind (wpAny_holding (wpAny_call (class_get (s := ⟨hp, g, d, t + 1, os⟩) (ox := ox) (od := od) X I c.hm ?_)))
  refine wpAny_pure ?_
  show wpAny _ _ (handedOut (.ref D)) _ _ _
  rw [handedOut_of (v := .ref D) rfl]
  first
    | exact wpAny_pure (wpAny_pure h)
    | exact wpAny_pure h
    | exact wpAny_pure (wpAny_bind (wpAny_pure (wpAny_pure h)))
theorem kit_excD (c : ExcC K D) : KitX K (.ref x) (.ref D) (fun h => InstAt h x ox D od) where
  ty := fun _ _ _ I => I.type
  it := fun _ _ X _ => by
    obtain ⟨cd, e, _⟩ := any_some c.hd
    unfold clsIn at e
    split at e
    · rename_i ho
      intro A' Q' E' s' k q
      unfold isType loadHead
      exact wpAny_bind (wpAny_loadPart (k _ _ (X _ _ ho)) (wpAny_pure q))
    · cases e
  ne := fun h tp dd its n sl X htp => by
    obtain ⟨cd, e, _⟩ := any_some c.hd
    cases z : (Value.ref D == Value.ref tp) with
    | false => rfl
    | true =>
      have e2 : D = tp := Value.ref.inj (beq_iff_eq.mp z)
      subst e2
      unfold clsIn at e
      split at e
      · rename_i ho
        have z := (X _ _ ho).symm.trans htp
        cases z
      · cases e
  ca := fun X I k => cls_of_exc c X I k
end
def FreeD (H : Hp) : Option Addr → Prop
  | none => True
  | some dx => ∃ v : V, H dx = some (.xd [(("index" : Str), v)])
def rIsK (K : Fg) : List V → Hp → VK → Prop := fun xs H Q => ∃ (a D : Addr) (d : Option Addr) (c : V) (cv : Value) (b : Bool), xs = [.ref a, c] ∧ H a = some (KpD (.ref D) d a) ∧ FreeD H d ∧ ExcC K D ∧ (∀ u, RelV c u → u = cv) ∧ PySem.W.kitOne K (.ref D) cv = some b ∧ Q (.bl b) H
def rIsKT (K : Fg) : List V → Hp → VK → Prop := fun xs H Q => ∃ (a D : Addr) (d : Option Addr) (tp : Addr) (cs : List Addr) (b : Bool), xs = [.ref a, .ref tp] ∧ H a = some (KpD (.ref D) d a) ∧ FreeD H d ∧ ExcC K D ∧ H tp = some (.tup (cs.map .ref)) ∧ PySem.W.kitAny K (.ref D) (cs.map .ref) = some b ∧ Q (.bl b) H
theorem kp_inst {X : Cx} {pins : List (Addr × Obj)} {σ : St} {H : Hp} {s : Shared} {a D : Addr} {d : Option Addr} (I : Inv X pins σ H s) (h : H a = some (KpD (.ref D) d a)) (hd : FreeD H d) : ∃ oe od, PySem.W.InstAt s.heap a oe D od := by
  obtain ⟨⟨oe, vs, h1, h2, h3⟩, _⟩ := (show ObjOk X.prog X.w H s.heap a (KpD (.ref D) d a) from I.hok a _ h)
  obtain ⟨oc, od, oda, osl⟩ := oe
  obtain ⟨z1, z2, _⟩ := h2
  dsimp only at z1 z2 h3
  subst z1 z2 h3
  cases od with
  | none => exact ⟨_, none, h1, rfl, rfl, trivial⟩
  | some dx =>
    obtain ⟨v, hv⟩ := hd
    obtain ⟨mA, hns, _⟩ := (show ObjOk X.prog X.w H s.heap dx (.xd [(("index" : Str), v)]) from I.hok dx _ hv)
    obtain ⟨o, ho, _⟩ := lookIn_ns hns
    exact ⟨_, some o, h1, rfl, rfl, ho⟩
theorem call_isK {X : Cx} : CallR X (.builtin "isinstance") (rIsK X.K) := by
  intro pins s σ H xs us Q I r h
  obtain ⟨a, D, d, c, cv, b, rfl, ha, hd, C, hcv, e, q⟩ := h
  obtain ⟨u1, u2, rfl, r1, r2⟩ := vals2 r
  cases (show u1 = Value.ref a from r1)
  have ec := hcv _ r2
  subst ec
  obtain ⟨oe, od, J⟩ := kp_inst I ha hd
  exact PySem.W.kia_one (kit_excD C) I.kIn J e (fun z => nomatch z) fun tk => ⟨.bl b, H, I.tok tk, rfl, q⟩
theorem vals_refs : ∀ {cs : List Addr} {us : List Value}, Vals (cs.map V.ref) us → us = cs.map Value.ref
  | [], us, h => by cases h; rfl
  | c :: cs, us, h => by
    cases h with
    | cons h1 h2 =>
      have e1 : _ = Value.ref c := h1
      rw [e1, vals_refs h2]
      rfl
theorem call_isKT {X : Cx} : CallR X (.builtin "isinstance") (rIsKT X.K) := by
  intro pins s σ H xs us Q I r h
  obtain ⟨a, D, d, tp, cs, b, rfl, ha, hd, C, hT, e, q⟩ := h
  obtain ⟨u1, u2, rfl, r1, r2⟩ := vals2 r
  cases (show u1 = Value.ref a from r1)
  cases (show u2 = Value.ref tp from r2)
  obtain ⟨oe, od, J⟩ := kp_inst I ha hd
  obtain ⟨_, its, rv, o, h1, h2, m, h3⟩ := (show ObjOk X.prog X.w H s.heap tp (.tup (cs.map .ref)) from I.hok tp _ hT)
  have e3 := vals_refs rv
  subst e3
  obtain ⟨oc, od', dt, sl⟩ := o
  simp only at h2 h3
  subst h2 h3
  exact PySem.W.kia_tup (kit_excD C) I.kIn J h1 e (fun z => nomatch z) fun tk => ⟨.bl b, H, I.tok tk, rfl, q⟩

structure ExAll (K : Fg) (xs ys : List Str) : Prop where
  c : ∀ x ∈ xs, ExcC K (He.ga K x)
  ve : ∀ x ∈ xs, PySem.W.kitOne K (.ref (He.ga K x)) (.type "ValueError") = some true
  ct : ∀ x ∈ xs, PySem.W.exmOne K (.ref (He.ga K x)) (.ref (He.ga K "ScoreError")) = some true
  k : ∀ x ∈ xs, ∀ y ∈ ys, PySem.W.kitOne K (.ref (He.ga K x)) (.ref (He.ga K y)) = some (decide (x = y))
theorem excCB_ok {K : Fg} {D : Addr} (h : excCB K D = true) : ExcC K D := by
  unfold excCB at h
  obtain ⟨a, b⟩ := He.ba h
  obtain ⟨a1, a2⟩ := He.ba a
  obtain ⟨b1, b2⟩ := He.ba b
  obtain ⟨c1, c2⟩ := He.ba b1
  obtain ⟨d1, d2⟩ := He.ba b2
  obtain ⟨e1, e2⟩ := He.ba d2
  obtain ⟨f1, f2⟩ := He.ba e1
  exact ⟨He.eqO_ok a1, He.eqO_ok a2, of_decide_eq_true c1, c2, He.eqO_ok d1, He.eqO_ok f1, of_decide_eq_true f2, of_decide_eq_true e2⟩
theorem exB_ok {K : Fg} {xs ys : List Str} (h : exB K xs ys = true) : ExAll K xs ys := by
  have g : ∀ x ∈ xs, _ := fun x hx => He.ba (List.all_eq_true.mp h x hx)
  exact ⟨fun x hx => excCB_ok (He.ba (g x hx).1).1, fun x hx => of_decide_eq_true (He.ba (g x hx).1).2, fun x hx => of_decide_eq_true (He.ba (g x hx).2).1,
    fun x hx y hy => of_decide_eq_true (List.all_eq_true.mp (He.ba (g x hx).2).2 y hy)⟩

def OpLe (G : Gb) : Prop := ∀ {t : Nat} {d : D} {Hi H : Hp} {p : Addr} {fp : List Addr}, G.Op.ok t d Hi H p fp → (OpS G.K).ok t d Hi H p fp
theorem opLe_s {K : Fg} {ca : Str → Addr} : OpLe ⟨K, OpS K, ca⟩ := fun h => h

def slKp (xs : List Str) : Sl → (Str → Prop) → Prop
  | .op t (.str x), k => t % 10 = 2 ∧ x ∈ xs ∧ k x
  | .op t (.tuple [.str x, _]), k => t % 10 = 6 ∧ x ∈ xs ∧ k x
  | _, _ => False
def wKpA (xs : List Str) (i : Nat) (f : Str → Bool) : WE := fun Γ Q _ => match Γ[i]? with
  | some s => slKp xs s fun x => Q (.sh (.bool (f x))) Γ
  | none => False
section
variable {X : Cx} {G : Gb} {W : WX} {xs ys : List Str} {p p2 p3 p4 pos : Pos}
theorem kp_at (hO : OpLe G) {C : Cf} {Hi H : Hp} {σ : St} {Γ : Ev} {i : Nat} {k : Str → Prop} {s : Sl} (c : Rel G C Hi σ H Γ) (hs : Γ[i]? = some s) (hk : slKp xs s k) : ∃ x a d, x ∈ xs ∧ σ[i]? = some (some (.ref a)) ∧ H a = some (KpD (.ref (He.ga G.K x)) d a) ∧ FreeD H d ∧ k x := by
  unfold slKp at hk
  split at hk
  · rename_i t x _
    obtain ⟨ht, hx, hk⟩ := hk
    obtain ⟨fp, c0⟩ := c
    obtain ⟨v, hv, a, rfl, okk, _⟩ := c0.sl i _ hs
    replace okk := hO okk
    obtain ⟨_, nm, hd, _, ha⟩ := op_kep ht okk
    injection hd with hd
    subst hd
    exact ⟨_, a, none, hx, hv, ha, trivial, hk⟩
  · rename_i t x dv _
    obtain ⟨ht, hx, hk⟩ := hk
    obtain ⟨fp, c0⟩ := c
    obtain ⟨v, hv, a, rfl, okk, _⟩ := c0.sl i _ hs
    replace okk := hO okk
    obtain ⟨_, nm, dx, w, dv', hd, _, ha, hdx, _⟩ := op_kxi ht okk
    injection hd with hd
    injection hd with hd1 hd2
    injection hd1 with hd1
    subst hd1
    exact ⟨_, a, some dx, hx, hv, ha, ⟨w, c0.imm _ _ hdx⟩, hk⟩
  · exact hk.elim
theorem sim_isK (hO : OpLe G) (ex : ExAll G.K xs ys) (i : Nat) {y : Str} (hy : y ∈ ys) : SimE G W (tCB (rIsK G.K) (tCons (tVar i) (tCons (tC (.ref (He.ga G.K y))) tNil))) (wKpA xs i fun x => decide (x = y)) := by
  intro C Hi σ H Γ Q Qd Xd c hw hQ hX
  unfold wKpA at hw
  cases hs : Γ[i]? with
  | none => rw [hs] at hw; exact hw.elim
  | some s =>
    rw [hs] at hw
    obtain ⟨x, a, d, hx, hv, ha, hd, q⟩ := kp_at hO c hs hw
    exact ⟨_, hv, a, _, d, _, .ref (He.ga G.K y), decide (x = y), rfl, ha, hd, ex.c x hx, fun u r => r, ex.k x hx y hy, hQ _ _ H Hi Γ (Ext.refl _) (out_bl c _) q⟩
theorem sim_isKV (hO : OpLe G) (ex : ExAll G.K xs ys) (i : Nat) : SimE G W (tCB (rIsK G.K) (tCons (tVar i) (tCons (tC (.ty "ValueError")) tNil))) (wKpA xs i fun _ => true) := by
  intro C Hi σ H Γ Q Qd Xd c hw hQ hX
  unfold wKpA at hw
  cases hs : Γ[i]? with
  | none => rw [hs] at hw; exact hw.elim
  | some s =>
    rw [hs] at hw
    obtain ⟨x, a, d, hx, hv, ha, hd, q⟩ := kp_at hO c hs hw
    exact ⟨_, hv, a, _, d, _, .type "ValueError", true, rfl, ha, hd, ex.c x hx, fun u r => r, ex.ve x hx, hQ _ _ H Hi Γ (Ext.refl _) (out_bl c _) q⟩
def tCs (K : Fg) : List Str → TA
  | [] => tNil
  | y :: r => tCons (tC (.ref (He.ga K y))) (tCs K r)
theorem tCs_run {K : Fg} : ∀ {zs : List Str} {σ : St} {H : Hp} {Q : List V → Hp → Prop}, Q (zs.map fun y => .ref (He.ga K y)) H → tCs K zs σ H Q
  | [], _, _, _, h => h
  | _ :: zs, _, _, Q, h => tCs_run (zs := zs) h
theorem kit_all {K : Fg} {x : Str} : ∀ {zs : List Str}, (∀ y ∈ zs, PySem.W.kitOne K (.ref (He.ga K x)) (.ref (He.ga K y)) = some (decide (x = y))) → PySem.W.kitAny K (.ref (He.ga K x)) ((zs.map (He.ga K)).map .ref) = some (decide (x ∈ zs))
  | [], _ => kitAny_nil
  | y :: zs, h => by
    have h1 := h y List.mem_cons_self
    have ih := kit_all (zs := zs) fun z hz => h z (List.mem_cons_of_mem _ hz)
    refine kitAny_cons h1 (fun e => ?_) fun e => ?_
    · have e := of_decide_eq_false e
      have : decide (x ∈ y :: zs) = decide (x ∈ zs) := by
        apply decide_eq_decide.mpr
        simp [e]
      rw [this]; exact ih
    · exact decide_eq_true (by rw [of_decide_eq_true e]; exact List.mem_cons_self)
theorem sim_isKT (hO : OpLe G) (ex : ExAll G.K xs ys) (i : Nat) {zs : List Str} (hz : ∀ y ∈ zs, y ∈ ys) (hl : zs.length ≤ 1000) : SimE G W (tCB (rIsKT G.K) (tCons (tVar i) (tCons (tTup (tCs G.K zs)) tNil))) (wKpA xs i fun x => decide (x ∈ zs)) := by
  intro C Hi σ H Γ Q Qd Xd c hw hQ hX
  unfold wKpA at hw
  cases hs : Γ[i]? with
  | none => rw [hs] at hw; exact hw.elim
  | some s =>
    rw [hs] at hw
    obtain ⟨x, a, d, hx, hv, ha, hd, q⟩ := kp_at hO c hs hw
    refine ⟨_, hv, tCs_run ⟨le_line (by simpa using hl), fun tp hp => ?_⟩⟩
    refine ⟨a, _, d, tp, zs.map (He.ga G.K), decide (x ∈ zs), rfl, ?_, ?_, ex.c x hx, ?_, kit_all fun y hy => ex.k x hx y (hz y hy), ?_⟩
    · rw [upd_ne (ne_of_none ha hp)]; exact ha
    · cases d with
      | none => trivial
      | some dx =>
        obtain ⟨w, hw'⟩ := hd
        exact ⟨w, by rw [upd_ne (ne_of_none hw' hp)]; exact hw'⟩
    · rw [upd_same, List.map_map]; rfl
    · exact hQ _ _ _ Hi Γ (Ext.refl _) (out_bl (c.grow (Ext.new hp) (Ext.refl _) (c.imm.trans (Ext.new hp)) fun _ _ z => .inl z) _) q
theorem pe_cls {y : Str} (hK : X.K = G.K) (m : X.mg y = some (.ref (He.ga G.K y))) (hg : Gl X y := by rfl) (hd : (y == ("__debug__" : Str)) = false := by decide) : PE X (.Name y pos) (tC (.ref (He.ga G.K y))) := pe_glob hg m rfl hd
structure DC (X : Cx) (K : Fg) (es : List Expr) (zs : List Str) : Prop where
  pa : PA X es (tCs K zs)
theorem dc_nil : DC X G.K [] [] := ⟨pa_nil⟩
theorem dc_cons {y : Str} {es : List Expr} {zs : List Str} (hK : X.K = G.K) (m : X.mg y = some (.ref (He.ga G.K y))) (r : DC X G.K es zs) (hg : Gl X y := by rfl) (hd : (y == ("__debug__" : Str)) = false := by decide)
    (hs : starEach (.Name y pos :: es) X.env = (false, eval (.Name y pos) X.env) :: starEach es X.env := by rfl) : DC X G.K (.Name y pos :: es) (y :: zs) := ⟨pa_cons (pe_cls hK m hg hd) r.pa hs⟩
theorem de_isK (hK : X.K = G.K) (hO : OpLe G) (ex : ExAll G.K xs ys) (i : Nat) {x y : Str} (hmi : X.mg "isinstance" = none) (m : X.mg y = some (.ref (He.ga G.K y))) (hy : y ∈ ys := by decide) (hN : X.N[i]? = some x := by rfl) (hv : Vis X.env.scope x := by first | exact Or.inl rfl | exact Or.inr (Or.inl rfl) | exact Or.inr (Or.inr rfl))
    (hd : (x == ("__debug__" : Str)) = false := by decide) (hcd : (x == ("__classdict__" : Str)) = false := by decide) (hgi : Gl X "isinstance" := by rfl) (hg : Gl X y := by rfl) (hdy : (y == ("__debug__" : Str)) = false := by decide)
    (he : starEach [.Name x p2, .Name y p3] X.env = (false, eval (.Name x p2) X.env) :: starEach [.Name y p3] X.env := by rfl) (he2 : starEach [.Name y p3] X.env = (false, eval (.Name y p3) X.env) :: starEach [] X.env := by rfl) (hpl : (backTo pos (starEach [.Name y p3] X.env)).any (·.1) = false := by rfl) :
    DE X G W (.Call (.Name "isinstance" p) [.Name x p2, .Name y p3] [] pos) (tCB (rIsK G.K) (tCons (tVar i) (tCons (tC (.ref (He.ga G.K y))) tNil))) (wKpA xs i fun x => decide (x = y)) :=
  ⟨pe_callB (by rw [← hK]; exact call_isK) hgi hmi (by decide +kernel) (pa_cons (pe_var hN hv hd hcd) (pa_cons (pe_cls hK m hg hdy) pa_nil he2) he) (by decide) (by decide) he hpl, sim_isK hO ex i hy⟩
theorem de_isKV (hK : X.K = G.K) (hO : OpLe G) (ex : ExAll G.K xs ys) (i : Nat) {x : Str} (hmi : X.mg "isinstance" = none) (m : X.mg "ValueError" = none) (hN : X.N[i]? = some x := by rfl) (hv : Vis X.env.scope x := by first | exact Or.inl rfl | exact Or.inr (Or.inl rfl) | exact Or.inr (Or.inr rfl))
    (hd : (x == ("__debug__" : Str)) = false := by decide) (hcd : (x == ("__classdict__" : Str)) = false := by decide) (hgi : Gl X "isinstance" := by rfl) (hg : Gl X "ValueError" := by rfl)
    (he : starEach [.Name x p2, .Name "ValueError" p3] X.env = (false, eval (.Name x p2) X.env) :: starEach [.Name "ValueError" p3] X.env := by rfl) (he2 : starEach [.Name "ValueError" p3] X.env = (false, eval (.Name "ValueError" p3) X.env) :: starEach [] X.env := by rfl) (hpl : (backTo pos (starEach [.Name "ValueError" p3] X.env)).any (·.1) = false := by rfl) :
    DE X G W (.Call (.Name "isinstance" p) [.Name x p2, .Name "ValueError" p3] [] pos) (tCB (rIsK G.K) (tCons (tVar i) (tCons (tC (.ty "ValueError")) tNil))) (wKpA xs i fun _ => true) :=
  ⟨pe_callB (by rw [← hK]; exact call_isK) hgi hmi (by decide +kernel) (pa_cons (pe_var hN hv hd hcd) (pa_cons (pe_bltn hg m (u := .type "ValueError") (by decide +kernel) rfl) pa_nil he2) he) (by decide) (by decide) he hpl, sim_isKV hO ex i⟩
theorem de_isKT (hK : X.K = G.K) (hO : OpLe G) (ex : ExAll G.K xs ys) (i : Nat) {x : Str} {es : List Expr} {zs : List Str} {j : Nat} (hmi : X.mg "isinstance" = none) (dc : DC X G.K es zs) (hz : ∀ y ∈ zs, y ∈ ys := by decide) (hl : zs.length ≤ 1000 := by decide) (hN : X.N[i]? = some x := by rfl) (hv : Vis X.env.scope x := by first | exact Or.inl rfl | exact Or.inr (Or.inl rfl) | exact Or.inr (Or.inr rfl))
    (hd : (x == ("__debug__" : Str)) = false := by decide) (hcd : (x == ("__classdict__" : Str)) = false := by decide) (hgi : Gl X "isinstance" := by rfl)
    (he : starEach [.Name x p2, .Tuple es j p3] X.env = (false, eval (.Name x p2) X.env) :: starEach [.Tuple es j p3] X.env := by rfl) (he2 : starEach [.Tuple es j p3] X.env = (false, eval (.Tuple es j p3) X.env) :: starEach [] X.env := by rfl) (hpl : (backTo pos (starEach [.Tuple es j p3] X.env)).any (·.1) = false := by rfl) :
    DE X G W (.Call (.Name "isinstance" p) [.Name x p2, .Tuple es j p3] [] pos) (tCB (rIsKT G.K) (tCons (tVar i) (tCons (tTup (tCs G.K zs)) tNil))) (wKpA xs i fun x => decide (x ∈ zs)) :=
  ⟨pe_callB (by rw [← hK]; exact call_isKT) hgi hmi (by decide +kernel) (pa_cons (pe_var hN hv hd hcd) (pa_cons (pe_tup dc.pa) pa_nil he2) he) (by decide) (by decide) he hpl, sim_isKT hO ex i hz hl⟩

def wMov (j i : Nat) : WS := fun Γ D _ => i ≠ j ∧ i < Γ.length ∧ j < Γ.length ∧ match Γ[i]? with
  | some (.op t d) => 10 ≤ t ∧ D.nx ((Γ.set i .no).set j (.op t d))
  | _ => False
theorem Core.moveOp {C : Cf} {Hi H : Hp} {σ : St} {Γ : Ev} {fp : Nat → List Addr} {i j t : Nat} {d : D} {a : Addr} (c : Core G C Hi σ H Γ fp) (hi : Γ[i]? = some (.op t d)) (hs : σ[i]? = some (some (.ref a))) (hne : i ≠ j) (hj : j < Γ.length) :
    Rel G C Hi (σ.set j (some (.ref a))) H ((Γ.set i .no).set j (.op t d)) := by
  have hl : i < Γ.length := (List.getElem?_eq_some_iff.mp hi).1
  obtain ⟨x, hx, p, e1, ok, hm, hp⟩ := c.sl i _ hi
  rw [hs] at hx; cases hx
  cases e1
  have c1 := c.put (x := some (.ref a)) (l := []) (s := .no) hl rfl fun b hb => nomatch hb
  have e : σ.set i (some (.ref a)) = σ := by
    obtain ⟨h1, h2⟩ := List.getElem?_eq_some_iff.mp hs
    rw [← h2]; exact List.set_getElem_self h1
  rw [e] at c1
  refine ⟨_, c1.put (i := j) (x := some (.ref a)) (l := fp i) (s := .op t d) (by simpa using hj) ⟨a, rfl, ok, hm, hp⟩ fun b hb => ⟨c.av i b hl hb, fun k hk hkj hbk => ?_⟩⟩
  by_cases hki : k = i
  · rw [if_pos hki] at hbk; cases hbk
  · rw [if_neg hki] at hbk
    exact hki (c.dj k i b (by simpa using hk) hl hbk hb)
theorem sim_mov (j i : Nat) : SimS G W (tAsg (tVar i) (gName j)) (wMov j i) := by
  intro C Hi σ H Γ Dn Dd Xd c hw h1 _ _ _ h5
  obtain ⟨hne, hi, hj, hw⟩ := hw
  split at hw
  · rename_i t d e
    obtain ⟨fp, c⟩ := c
    obtain ⟨x, hx, p, e1, _⟩ := c.sl i _ e
    rw [e1] at hx
    exact ⟨_, hx, h1 _ H Hi _ (Ext.refl _) (c.moveOp e hx hne hj) hw.2⟩
  · exact hw.elim
end
end VL

set_option Elab.async false
set_option linter.all false
set_option maxRecDepth 100000
namespace VL
open PySem PySem.Spec PyProof.Rows L2

def exW (e : Exn) (k : Sl → Prop) : Prop := match e.idx with
  | none => k (.op 12 (.str e.name))
  | some .non => k (.op 16 (.tuple [.str e.name, .none]))
  | some (.int j) => k (.op 16 (.tuple [.str e.name, .int j]))
  | _ => False
def wTry (xs : List Str) (i : Nat) (wb ws : WS) : WS := fun Γ D _ => wb Γ D fun e Γ1 => e.name ∈ xs ∧ exW e fun s =>
  ws (Γ1.set i s) ⟨fun Γ2 => D.nx (Γ2.set i .no), D.rt, fun Γ2 => D.bk (Γ2.set i .no), fun Γ2 => D.ct (Γ2.set i .no)⟩ fun _ _ => False
section
variable {X : Cx} {G : Gb} {W : WX} {xs ys : List Str}
theorem Rel.kept (hO : G.Op = OpS G.K) {C : Cf} {Hi H : Hp} {σ : St} {Γ : Ev} (c : Rel G C Hi σ H Γ) (i : Nat) {a : Addr} (ha : H a = none) {cl : Value} {x : Exn} {d : Option Addr} {k : Sl → Prop} (hca : G.ca = He.ga G.K) (hx : G.xr x cl d Hi) (q : exW x k) :
    ∃ s, k s ∧ Rel G C Hi (σ.set i (some (.ref a))) (upd H a (KpD cl d a)) (Γ.set i s) := by
  obtain ⟨fp, c0⟩ := id c
  obtain ⟨z1, z2⟩ := hx
  subst z1
  have main : ∀ s, (∀ t dd, s = .op t dd → t = 12 ∨ t = 16) → (∃ t dd, s = .op t dd ∧ (OpS G.K).ok t dd Hi (upd H a (KpD (.ref (G.ca x.name)) d a)) a [a]) → Rel G C Hi (σ.set i (some (.ref a))) (upd H a (KpD (.ref (G.ca x.name)) d a)) (Γ.set i s) := fun s hs ⟨t, dd, es, ok⟩ => by
    subst es
    have ht := hs t dd rfl
    refine Rel.setOw ⟨_, c0.push (x := some (.ref a)) (l := [a]) (s := .op t dd) (Ext.new ha) ⟨a, rfl, by rw [hO]; exact ok, fun b hb => ?_, fun q hq => by omega⟩ fun b hb => ?_⟩ c.len
    · have : b = a := by simpa using hb
      rw [this]; exact .inl (c0.fresh ha).2
    · have : b = a := by simpa using hb
      rw [this]; exact ha
  unfold exW at q
  split at q
  · rename_i e
    rw [e] at z2
    have z2 : d = none := z2
    subst z2
    exact ⟨_, q, main _ (fun t dd e => by cases e; exact .inl rfl) ⟨_, _, rfl, .inr (.inr (.inl ⟨by decide, x.name, rfl, rfl, by rw [hca, upd_same]⟩))⟩⟩
  · rename_i e
    rw [e] at z2
    obtain ⟨dx, hd, hdx⟩ := z2
    subst hd
    exact ⟨_, q, main _ (fun t dd e => by cases e; exact .inr rfl) ⟨_, _, rfl, .inr (.inr (.inr (.inr (.inr ⟨by decide, x.name, dx, .non, .none, rfl, rfl, by rw [hca, upd_same], hdx, .non⟩))))⟩⟩
  · rename_i j e
    rw [e] at z2
    obtain ⟨dx, hd, hdx⟩ := z2
    subst hd
    exact ⟨_, q, main _ (fun t dd e => by cases e; exact .inr rfl) ⟨_, _, rfl, .inr (.inr (.inr (.inr (.inr ⟨by decide, x.name, dx, .int j, .int j, rfl, rfl, by rw [hca, upd_same], hdx, .int j⟩))))⟩⟩
  · exact q.elim
theorem sim_try {tb : WX → TS} {ts : TS} {wb wu : WS} (hK : X.K = G.K) (hO : G.Op = OpS G.K) (hca : G.ca = He.ga G.K) (ex : ExAll G.K xs ys) (i : Nat) (hb : ∀ W', SimS G W' (tb W') wb) (hu : SimS G noW ts wu) :
    SimS G W (fun D σ H => tb (wKp X.K (.ref (He.ga G.K "ScoreError")) i (fun _ => ts) D) D σ H) (wTry xs i wb wu) := by
  intro C Hi σ H Γ Dn Dd Xd c hw h1 h2 h3 h4 h5
  refine hb _ C Hi σ H Γ Dn Dd _ c hw h1 h2 h3 h4 fun x cl d σ' H' Hi' Γ' e c' hx q => ?_
  obtain ⟨q2, q3⟩ := q
  obtain ⟨z1, z2⟩ := id hx
  refine ⟨by rw [hK, z1, hca]; exact ex.ct _ q2, fun a ha => ?_⟩
  obtain ⟨s, q4, c2⟩ := c'.kept hO i ha hca hx q3
  refine hu C Hi' _ _ _ (endsK i Dn) _ _ c2 q4 (fun σ3 H3 Hi3 Γ3 e3 c3 k => h1 _ H3 Hi3 _ (e.trans e3) c3.setNo k) (fun v r σ3 H3 Hi3 Γ3 e3 o3 k => h2 v r σ3 H3 Hi3 Γ3 (e.trans e3) o3 k)
    (fun σ3 H3 Hi3 Γ3 e3 c3 k => h3 _ H3 Hi3 _ (e.trans e3) c3.setNo k) (fun σ3 H3 Hi3 Γ3 e3 c3 k => h4 _ H3 Hi3 _ (e.trans e3) c3.setNo k) fun x c d σ' H' Hi' Γ' e c' hx z => z.elim
theorem ds_try {blk su : List Stmt} {s1 : Stmt} {n : Str} {q1 q2 q3 : Pos} {tb : WX → TS} {ts : TS} {wb wu : WS} (hK : X.K = G.K) (hO : G.Op = OpS G.K) (hca : G.ca = He.ga G.K) (ex : ExAll G.K xs ys) (i : Nat) (hm : X.mg "ScoreError" = some (.ref (He.ga G.K "ScoreError"))) (nd : X.N.Nodup)
    (hb : ∀ (W' : WX) (ps : List (Addr × Obj)) (xw : Value → Shared → Prop), L2N.Takes (X.tr ps xw) W' → DB (X.tr ps xw) G W' blk (tb W') wb) (hu : ∀ (a : Addr) (ps : List (Addr × Obj)), DB (X.suite a ps) G noW (s1 :: su) ts wu)
    (hst : X.stack = X.env :: X.outer := by rfl) (hfr : X.env.frame = some X.env.locals := by rfl) (hn : X.N[i]? = some n := by rfl) (hl : X.env.kindOf n = some .local := by rfl) (hex : X.ex = [] := by rfl) (hgl : Gl X "ScoreError" := by rfl) :
    DS X G W (.Try blk [.ExceptHandler (some (.Name "ScoreError" q1)) (some n) (s1 :: su) q2] [] [] q3) (fun D σ H => tb (wKp X.K (.ref (He.ga G.K "ScoreError")) i (fun _ => ts) D) D σ H) (wTry xs i wb wu) :=
  ⟨ps_try_keep hst hfr nd hn hl ⟨hgl, by decide, .inl hm⟩ hex (fun W' ps xw tk => (hb W' ps xw tk).pe) (fun a ps => (hu a ps).pe), sim_try hK hO hca ex i (fun W' => (hb W' [] (fun _ _ => True) (fun _ _ _ => trivial)).sim) (hu 0 []).sim⟩
theorem ds_mov {x y : Str} {py px pos : Pos} (j i : Nat) (hN : X.N.Nodup) (hi : X.N[i]? = some x := by rfl) (hv : Vis X.env.scope x := by first | exact Or.inl rfl | exact Or.inr (Or.inl rfl) | exact Or.inr (Or.inr rfl)) (hd : (x == ("__debug__" : Str)) = false := by decide) (hcd : (x == ("__classdict__" : Str)) = false := by decide)
    (hj : X.N[j]? = some y := by rfl) (hx : L2.Loc X.env.scope y := by first | exact .inl rfl | exact .inr rfl) (hf : X.fn y = true ∨ X.env.scope.names.lookup y = some .local := by first | exact .inl rfl | exact .inr rfl) (hs : swapsWith (.Name x px) (some (.Name y py)) pos.line X.env = pure false := by rfl) :
    DS X G W (.Assign [.Name y py] (.Name x px) pos) (tAsg (tVar i) (gName j)) (wMov j i) :=
  ⟨ps_set (i := j) hN hj hx (pe_var hi hv hd hcd), sim_mov j i⟩
def slNone : Sl → (Bool → Prop) → Prop
  | .sh d, k => k (isNone d)
  | .op _ _, k => k false
  | _, _ => False
def wIsNV (i : Nat) : WE := fun Γ Q _ => match Γ[i]? with
  | some s => slNone s fun b => Q (.sh (.bool b)) Γ
  | none => False
theorem sim_isNV (i : Nat) : SimE G W (tOp (fun x y H Q => y = .non ∧ Q (.bl (decide (x = .non))) H) (tVar i) (tC .non)) (wIsNV i) := by
  intro C Hi σ H Γ Q Qd Xd c hw hQ hX
  unfold wIsNV at hw
  cases hs : Γ[i]? with
  | none => rw [hs] at hw; exact hw.elim
  | some s =>
    rw [hs] at hw
    cases s with
    | sh d =>
      obtain ⟨v, h1, h2⟩ := c.at_sh hs
      refine ⟨v, h1, rfl, ?_⟩
      rw [rdb_none (H := H) (.inl h2)]
      exact hQ _ _ H Hi Γ (Ext.refl _) (out_bl c _) hw
    | op t d =>
      obtain ⟨fp, c0⟩ := id c
      obtain ⟨x, hx, p, rfl, _⟩ := c0.sl i _ hs
      refine ⟨_, hx, rfl, ?_⟩
      rw [decide_eq_false (fun z => nomatch z)]
      exact hQ _ _ H Hi Γ (Ext.refl _) (out_bl c _) hw
    | no => exact hw.elim
    | ow d => exact hw.elim
    | io d => exact hw.elim
    | two _ _ => exact hw.elim
theorem dt_isNV {x : Str} {j : Nat} {p p2 pos : Pos} (i : Nat) (hN : X.N[i]? = some x := by rfl) (hv : Vis X.env.scope x := by first | exact Or.inl rfl | exact Or.inr (Or.inl rfl) | exact Or.inr (Or.inr rfl)) (hd : (x == ("__debug__" : Str)) = false := by decide) (hcd : (x == ("__classdict__" : Str)) = false := by decide) :
    DT X G W (.Compare (.Name x p) [.Is] [.Constant .none j p2] pos) (tTest (tOp (fun x y H Q => y = .non ∧ Q (.bl (decide (x = .non))) H) (tVar i) (tC .non))) (wT (wIsNV i)) :=
  ⟨pt_cmpR op_isN (pe_var hN hv hd hcd) pe_non (nobehind _ (by decide) (by decide)), sim_tTest (sim_isNV i)⟩
end
@[simp ↓] theorem ev_wTry (xs : List Str) (i : Nat) (wb ws : WS) (Γ : Ev) (D : WD) (X : XW) : wTry xs i wb ws Γ D X = wb Γ D fun e Γ1 => e.name ∈ xs ∧ exW e fun s =>
  ws (Γ1.set i s) ⟨fun Γ2 => D.nx (Γ2.set i .no), D.rt, fun Γ2 => D.bk (Γ2.set i .no), fun Γ2 => D.ct (Γ2.set i .no)⟩ fun _ _ => False := rfl
@[simp ↓] theorem exW_none (nm : Str) (k : Sl → Prop) : exW ⟨nm, none⟩ k = k (.op 12 (.str nm)) := rfl
@[simp ↓] theorem exW_non (nm : Str) (k : Sl → Prop) : exW ⟨nm, some .non⟩ k = k (.op 16 (.tuple [.str nm, .none])) := rfl
@[simp ↓] theorem exW_int (nm : Str) (j : Int) (k : Sl → Prop) : exW ⟨nm, some (.int j)⟩ k = k (.op 16 (.tuple [.str nm, .int j])) := rfl
@[simp ↓] theorem ev_wRaise (nm : Str) (Γ : Ev) (D : WD) (X : XW) : wRaise nm Γ D X = X ⟨nm, none⟩ Γ := rfl
@[simp ↓] theorem ev_wKpA (xs : List Str) (i : Nat) (f : Str → Bool) (Γ : Ev) (Q : R → Ev → Prop) (X : XW) : wKpA xs i f Γ Q X = getS Γ i fun s => slKp xs s fun x => Q (.sh (.bool (f x))) Γ := by
  rw [getS_at]
  unfold wKpA
  cases Γ[i]? <;> rfl
@[simp ↓] theorem slKp_opI (xs : List Str) (t : Nat) (x : Str) (d : D) (k : Str → Prop) : slKp xs (.op t (.tuple [.str x, d])) k = (t % 10 = 6 ∧ x ∈ xs ∧ k x) := rfl
@[simp ↓] theorem slKp_op (xs : List Str) (t : Nat) (x : Str) (k : Str → Prop) : slKp xs (.op t (.str x)) k = (t % 10 = 2 ∧ x ∈ xs ∧ k x) := rfl
@[simp ↓] theorem ev_wIsNV (i : Nat) (Γ : Ev) (Q : R → Ev → Prop) (X : XW) : wIsNV i Γ Q X = getS Γ i fun s => slNone s fun b => Q (.sh (.bool b)) Γ := by
  rw [getS_at]
  unfold wIsNV
  cases Γ[i]? <;> rfl
@[simp ↓] theorem slNone_sh (d : D) (k : Bool → Prop) : slNone (.sh d) k = k (isNone d) := rfl
@[simp ↓] theorem slNone_op (t : Nat) (d : D) (k : Bool → Prop) : slNone (.op t d) k = k false := rfl
def slMov (Γ : Ev) (j i : Nat) (D : WD) : Sl → Prop
  | .op t d => 10 ≤ t ∧ D.nx ((Γ.set i .no).set j (.op t d))
  | _ => False
@[simp ↓] theorem ev_wMov (j i : Nat) (Γ : Ev) (D : WD) (X : XW) : wMov j i Γ D X = (i ≠ j ∧ i < Γ.length ∧ j < Γ.length ∧ getS Γ i fun s => slMov Γ j i D s) := by
  rw [getS_at]
  unfold wMov
  cases Γ[i]? with
  | none => rfl
  | some s => cases s <;> rfl

@[simp ↓] theorem slMov_op (Γ : Ev) (j i : Nat) (K : WD) (t : Nat) (d : PyData) : slMov Γ j i K (.op t d) = (10 ≤ t ∧ K.nx ((Γ.set i .no).set j (.op t d))) := rfl
end VL

set_option Elab.async false
set_option linter.all false
set_option maxRecDepth 100000
namespace SC
open PySem L2 VL

def nameD : D → Bool
  | .str s => nameB s
  | _ => false
def nmOk (d : D) : Prop := ∀ s, d = .str s → s.length ≤ 1000000
def fs_is_nameX : FS := fun io ds Q _ => io = none ∧ ∃ d, ds = [d] ∧ nmOk d ∧ Q (.sh (.bool (nameD d))) none
def w_is_nameX : WS := wSeq (wIfS (wOr (wNot (wT (wIsi "str" (wVar 0)))) (wNot (wT (wChain (oIB fun i j => decide (i ≤ j)) (oIB fun i j => decide (i ≤ j)) (wC (.int 1)) (wCB (o1 oLen) (wCons (wVar 0) (wNil))) (wC (.int 8)))))) (wRet (wC (.bool false))) (wNext)) (wRet (wCB (o1 oAll) (wCons (wLc [1] (wiS (wVar 0)) (wgName 1) (wYes) (wOp (oIn false) (wVar 1) (wC (.str "abcdefghijklmnopqrstuvwxyz")))) (wNil))))
theorem lc_nameX (z : D) (k : List D → Ev → Prop) : ∀ (cs : List Nat) (bs : List Bool), bs.length + cs.length ≤ 1000 → k ((bs ++ cs.map letter).map .bool) [.sh z, .no] →
    lcW [1] (wgName 1) wYes (wOp (oIn false) (wVar 1) (wC (.str "abcdefghijklmnopqrstuvwxyz"))) k (cs.map fun c => .str ⟨#[c]⟩) (bs.map .bool) [.sh z, .no]
  | [], bs, _, q => by simpa [lcW] using q
  | c :: cs, bs, hn, q => by
    rw [List.length_cons] at hn
    have ih := lc_nameX z k cs (bs ++ [letter c]) (by rw [List.length_append, List.length_cons, List.length_nil]; omega) (by rw [List.append_assoc]; exact q)
    rw [List.map_cons]
    unfold lcW
    simp only [ev_wgName, List.set_cons_succ, List.set_cons_zero, ev_wYes, ev_wOp, ev_wVar, getS_0, getS_s, slVar_sh, ev_wC, ev_rd_sh, if_true]
    rw [ev_in_str, ev_isS]
    refine ⟨c, rfl, ?_⟩
    rw [if_neg Bool.false_ne_true]
    simp only [ev_fr_sh, List.length_map]
    refine ⟨small (by omega), ?_⟩
    rw [List.map_append] at ih
    exact ih
theorem fv_is_nameX : FnV fs_is_nameX 2 w_is_nameX := by
  rintro io ds Q X ⟨rfl, d, rfl, hs, q⟩
  show w_is_nameX [.sh d, .no] _ _
  cases d with
  | str s =>
    have hl := hs s rfl
    have q : Q (.sh (.bool (nameB s))) none := q
    by_cases h : 1 ≤ s.length ∧ s.length ≤ 8
    · have e1 : (1 : Int) ≤ (s.length : Int) := by omega
      have e2 : (s.length : Int) ≤ 8 := by omega
      simp [w_is_nameX, isT, e1, e2, ev_wLc]
      refine ⟨smallE hl, ⟨trivial, trivial⟩, ?_⟩
      refine lc_nameX _ _ s.cps.toList [] (by have : s.cps.size = s.length := rfl
                                              simp; omega) ?_
      refine ⟨s.cps.toList.map letter, rfl, ?_⟩
      have : (s.cps.toList.map letter).all id = nameB s := by
        unfold nameB
        rw [List.all_map]
        simp [h.1, h.2]
      rw [this]
      exact q
    · have : nameB s = false := by
        unfold nameB
        by_cases h1 : 1 ≤ s.length
        · have : ¬ s.length ≤ 8 := fun z => h ⟨h1, z⟩
          simp [this]
        · simp [h1]
      rw [this] at q
      by_cases e1 : (1 : Int) ≤ (s.length : Int)
      · have e2 : ¬ (s.length : Int) ≤ 8 := fun z => h ⟨by omega, by omega⟩
        simp [w_is_nameX, isT, e1, e2]
        exact ⟨smallE hl, q⟩
      · simp [w_is_nameX, isT, e1]
        exact ⟨smallE hl, q⟩
  | _ => simp [w_is_nameX, isT]; exact q

def itemD (d : D) (ps : List (D × D)) : Bool := match d with
  | .tuple [a, b] => nameD b && (PyData.eqv a (.str "bar") || (PyData.eqv a (.str "mark") && !(dget ps b).isSome))
  | .tuple [a, b, c] => nameD b && (PyData.eqv a (.str "repeat") && ((dget ps b).isSome && isIntD c 1 .none))
  | _ => false
def itOk (d : D) : Prop := ∀ l, d = .tuple l → ∀ x ∈ l, SeqAt.shaped x = true ∧ nmOk x
def markD : D → Bool
  | .tuple (a :: _) => PyData.eqv a (.str "mark")
  | _ => false
def nmD1 : D → D
  | .tuple (_ :: b :: _) => b
  | _ => .none
def scoreL : List D → List (D × D) → Nat → Bool
  | [], _, _ => true
  | d :: r, ps, n => itemD d ps && scoreL r (if markD d then dput ps (nmD1 d) (.int (n : Int)) else ps) (n + 1)
def scoreD (d : D) : Bool := match d with
  | .list l => scoreL l [] 0
  | _ => false
def valOk (d : D) : Prop := ∀ l, d = .list l → l.length ≤ 1000 ∧ ∀ x ∈ l, itOk x
end SC

set_option Elab.async false
set_option linter.all false
set_option maxRecDepth 100000
namespace SC
open PySem L2 VL

end SC

set_option Elab.async false
set_option linter.all false
set_option maxRecDepth 100000
namespace SC
open PySem L2 VL

end SC

set_option Elab.async false
set_option linter.all false
set_option maxRecDepth 100000
namespace VL
open PySem L2 PyProof.Rows

def tenP : Nat := 10 ^ 4300
mutual
def ShowB : PyData → Prop
  | .none => True
  | .bool _ => True
  | .str _ => True
  | .int i => i.natAbs < tenP
  | .list xs => ShowBAll xs
  | .tuple xs => ShowBAll xs
  | .dict kvs => ShowBKv kvs
def ShowBAll : List PyData → Prop
  | [] => True
  | x :: xs => ShowB x ∧ ShowBAll xs
def ShowBKv : List (PyData × PyData) → Prop
  | [] => True
  | (k, v) :: r => ShowB k ∧ ShowB v ∧ ShowBKv r
end
section
variable {P : Program} {w : World} {K : Fg} {H : Hp} {h : Heap}
theorem reprK_int {i : Int} (t : Tok) (hn : h.NoDigits) (hi : i.natAbs < tenP) : ReprK P w [] h 0 (.int i t) (PyData.shown (.int i)) := by
  intro base hb A g E s Q hg hcl hu hk hQ
  have hb' : base ≤ sizeLine := by omega
  rw [pyReprUnder_leaf (v := .int i t) hb' (fun _ e => nomatch e)]
  unfold pyRepr
  have hns : s.heap.NoDigits := hn.keeps hk
  refine wpAny_bind (wpAny_pyReprObj_slot (by omega) (typeIs_int _ i t) F.slot_int_repr.toG ?_)
  refine wpAny_call (codeAny_call_builtin F.slot_int_repr.plain F.entry_int_repr (F.slot_int_repr.check _ _ _ _ _ _ _ _ (typeIs_int _ i t) (F.args_int_repr_1 _) ?_))
  unfold Builtin.«int.__repr__»
  show wpAny _ _ (do let r ← Builtin.overDigitLimit? i; _) _ _ s
  refine wpAny_bind (overDigitLimit_any hns (fun hlt => ?_) (fun hge => absurd hi (Nat.not_lt.mpr hge)))
  refine wpAny_bind (wpAny_mkStr (wpAny_pure ⟨_, _, rfl, ?_⟩) (int_text_fits10 hlt))
  have := hQ s.heap (s.toks + 1) fun _ _ e => e
  simp only [PyData.shown] at this
  exact wpAny_pure this
theorem key_read {h : Heap} {k : Key} {u : Value} {d : D} (h1 : keyIs k u = true) (hk : kD k = d) (hs : ShowB d) (hz : (PyData.shown d).length ≤ sizeLine) (hn : h.NoDigits) : ∃ as, Reads h u d as ∧ ReprK P w [] h 0 u (PyData.shown d) := by
  rcases keyIs_shape h1 with ⟨i, t, rfl, rfl⟩ | ⟨x, t, rfl, rfl⟩
  · have hp : d = .int i := hk.symm
    subst hp
    exact ⟨_, .int i t, reprK_int t hn (by simpa only [ShowB] using hs)⟩
  · have hp : d = .str x := hk.symm
    subst hp
    refine ⟨_, .str x t, ?_⟩
    simp only [PyData.shown] at hz ⊢
    exact .of_is (ReprIs.str x t hz) _ _ _
theorem keys_read {h : Heap} (hn : h.NoDigits) {es : List DictEntry} {kvs : List (Key × Value)} (hp : Pairs (mixKind P w) es kvs) : ∀ {ds : List D}, kvs.map (fun p => kD p.1) = ds → ShowBAll ds → (∀ t ∈ PyData.shownAll ds, t.length ≤ sizeLine) →
    ∃ as bs, ReadsAll h (es.map (·.key)) ds as ∧ ReadAtMost h (PyData.depthAll ds) bs ∧ ReprAllK P w bs h (PyData.depthAll ds) (es.map (·.key)) (PyData.shownAll ds) := by
  induction hp with
  | nil =>
    intro ds e hs hz
    subst e
    exact ⟨[], [], .nil, (fun _ q => nomatch q), .nil⟩
  | @cons e kv es kvs h1 h2 r ih =>
    intro ds e0 hs hz
    subst e0
    rw [List.map_cons] at hs hz ⊢
    have hs : ShowB (kD kv.1) ∧ ShowBAll (kvs.map fun p => kD p.1) := by simpa only [ShowBAll] using hs
    simp only [PyData.shownAll] at hz
    obtain ⟨as, bs, i1, i2, i3⟩ := ih rfl hs.2 (fun t ht => hz t (List.mem_cons_of_mem _ ht))
    have hd : PyData.depth (kD kv.1) = 0 := (show ∀ k : Key, PyData.depth (kD k) = 0 from fun k => by cases k <;> simp [kD, PyData.depth]) kv.1
    obtain ⟨as', k1, k2⟩ := key_read (P := P) (w := w) (h := h) h1 rfl hs.1 (hz _ List.mem_cons_self) hn
    have hle : PyData.depthAll (kvs.map fun p => kD p.1) ≤ PyData.depthAll (kD kv.1 :: kvs.map fun p => kD p.1) := by simp only [PyData.depthAll]; omega
    refine ⟨as' ++ as, bs, .cons k1 i1, i2.mono hle, ?_⟩
    simp only [List.map_cons, PyData.shownAll, PyData.depthAll]
    exact .cons ((k2.more fun b hb => nomatch hb).level_le (by omega)) (i3.more_le (fun b hb => hb) (by omega))
theorem showBKv_split : ∀ {kvs : List (D × D)}, ShowBKv kvs → ShowBAll (kvs.map (·.1)) ∧ ShowBAll (kvs.map (·.2))
  | [], _ => ⟨trivial, trivial⟩
  | (k, v) :: r, hk => by
    have hk : ShowB k ∧ ShowB v ∧ ShowBKv r := by simpa only [ShowBKv] using hk
    obtain ⟨a, b⟩ := showBKv_split hk.2.2
    exact ⟨⟨hk.1, a⟩, hk.2.1, b⟩
theorem RepKV.keys : ∀ {kvs : List (Key × V)} {ps : List (D × D)}, RepKV K H kvs ps → kvs.map (fun p => kD p.1) = ps.map (·.1)
  | _, _, .nil => rfl
  | _, _, .cons _ r => by rw [List.map_cons, List.map_cons, RepKV.keys r]
theorem kv_keys : ∀ {kvs : List (Key × V)} {vs : List (Key × Value)}, KV kvs vs → kvs.map (fun p => kD p.1) = vs.map fun p => kD p.1
  | _, _, .nil => rfl
  | _, _, .cons h r => by rw [List.map_cons, List.map_cons, kv_keys r, h.1]
theorem pairs_vals : ∀ {es : List DictEntry} {kvs : List (Key × Value)}, Pairs (mixKind P w) es kvs → es.map (·.val) = kvs.map (·.2)
  | _, _, .nil => rfl
  | _, _, .cons _ h r => by rw [List.map_cons, List.map_cons, pairs_vals r, h]
theorem kv_vals : ∀ {kvs : List (Key × V)} {vs : List (Key × Value)}, KV kvs vs → Vals (kvs.map (·.2)) (vs.map (·.2))
  | _, _, .nil => .nil
  | _, _, .cons h r => .cons h.2 (kv_vals r)
theorem RepKV.vals : ∀ {kvs : List (Key × V)} {ps : List (D × D)}, RepKV K H kvs ps → Reps K H (kvs.map (·.2)) (ps.map (·.2))
  | _, _, .nil => .nil
  | _, _, .cons h r => .cons h (RepKV.vals r)
mutual
theorem Rep.showK (I : HOk P w H h) (hn : h.NoDigits) : ∀ {d : D} {v : V} {u : Value}, Rep K H v d → RelV v u → ShowB d → d.shown.length ≤ sizeLine →
    ∃ as bs, Reads h u d as ∧ ReadAtMost h d.depth bs ∧ ReprK P w bs h d.depth u d.shown
  | _, _, u, .non, r, _, _ => by cases (show u = .none from r); exact ⟨_, [], .none, (fun _ q => nomatch q), by simp only [PyData.shown]; exact .of_is ReprIs.none _ _ _⟩
  | _, _, u, .bl b, r, _, _ => by cases (show u = .bool b from r); exact ⟨_, [], .bool b, (fun _ q => nomatch q), by simp only [PyData.shown]; exact .of_is (ReprIs.bool b) _ _ _⟩
  | _, _, u, .int i, r, hs, _ => by
    obtain ⟨t, rfl⟩ := r
    exact ⟨_, [], .int i t, (fun _ q => nomatch q), by
      have := reprK_int (P := P) (w := w) (h := h) (i := i) t hn (by simpa only [ShowB] using hs)
      simpa only [PyData.depth] using this⟩
  | _, _, u, .str x, r, _, hz => by
    obtain ⟨t, rfl⟩ := r
    exact ⟨_, [], .str x t, (fun _ q => nomatch q), by simp only [PyData.shown]; exact .of_is (ReprIs.str x t (by simpa only [PyData.shown] using hz)) _ _ _⟩
  | .list ds, _, u, .lst (a := a) (xs := xs) hl rs, r, hs, hz => by
    cases (show u = .ref _ from r)
    obtain ⟨_, its, n, rv, ho⟩ := I _ _ hl
    have hz' : (listText (PyData.shownAll ds)).length ≤ sizeLine := by simpa only [PyData.shown] using hz
    obtain ⟨as, bs, h4, hb, hk⟩ := Reps.showK I hn rs rv (by simpa only [ShowB] using hs) fun t ht => Nat.le_trans (listText_mem_le ht) hz'
    have h4' : ReadsAll h its.toArray.toList ds as := by simpa using h4
    have rd : Reads h (.ref a) (.list ds) _ := .list ho rfl rfl h4'
    have hna : a ∉ bs := not_mem_of_deeper rd (by simp only [PyData.depth]; omega) hb
    refine ⟨_, a :: bs, rd, ReadAtMost.cons rd (by simp only [PyData.depth]; omega) hb, ?_⟩
    simp only [PyData.depth, PyData.shown]
    cases its with
    | nil =>
      cases h4
      simp only [PyData.shownAll, listText_nil]
      exact ReprK.listEmpty ho rfl rfl
    | cons x l => exact ReprK.list ho rfl rfl hna (by simpa using hk.length_eq) (fun i y e => hk.item i y (by simpa using e))
  | .tuple ds, _, u, .tup (a := a) (xs := xs) hl rs, r, hs, hz => by
    cases (show u = .ref _ from r)
    obtain ⟨_, its, rv, ho⟩ := I _ _ hl
    obtain ⟨o, n, h1, h2, h3⟩ := tup_obj ho
    have hz' : (tupleText (PyData.shownAll ds)).length ≤ sizeLine := by simpa only [PyData.shown] using hz
    obtain ⟨as, bs, h4, hb, hk⟩ := Reps.showK I hn rs rv (by simpa only [ShowB] using hs) fun t ht => Nat.le_trans (tupleText_mem_le ht) hz'
    have h4' : ReadsAll h its.toArray.toList ds as := by simpa using h4
    have rd : Reads h (.ref a) (.tuple ds) _ := .tuple h1 h2 h3 h4'
    have hna : a ∉ bs := not_mem_of_deeper rd (by simp only [PyData.depth]; omega) hb
    refine ⟨_, a :: bs, rd, ReadAtMost.cons rd (by simp only [PyData.depth]; omega) hb, ?_⟩
    simp only [PyData.depth, PyData.shown]
    exact ReprK.tuple h1 h2 h3 hna (by simpa using hk)
  | .dict ps, _, u, .dct (a := a) (kvs := kvs) hl rs, r, hs, hz => by
    cases (show u = .ref _ from r)
    obtain ⟨_, hsys, vs, rv, o, es, ep, h1, h2, h3, _, h5, _⟩ := hl.ok I
    have hz' : (dictText (PyData.shownKv ps)).length ≤ sizeLine := by simpa only [PyData.shown] using hz
    obtain ⟨s1, s2⟩ := showBKv_split (by simpa only [ShowB] using hs)
    obtain ⟨a1, b1, r1, hb1, k1⟩ := keys_read (h := h) hn h5 ((kv_keys rv).symm.trans rs.keys) s1 (fun t ht => let ⟨p, hp, hq⟩ := PyData.shownKv_key_le ps t ht; Nat.le_trans hq (Nat.le_trans (dictText_mem_le hp) hz'))
    have rv2 := kv_vals rv
    rw [← pairs_vals h5] at rv2
    obtain ⟨a2, b2, r2, hb2, k2⟩ := RepKV.showK I hn rs rv2 s2 (fun t ht => let ⟨p, hp, hq⟩ := PyData.shownKv_val_le ps t ht; Nat.le_trans hq (Nat.le_trans (dictText_mem_le hp) hz'))
    have rd : Reads h (.ref a) (.dict ps) _ := .dict h1 h2.1 h3 r1 r2
    have hb : ReadAtMost h (PyData.depthKv ps) (b1 ++ b2) := (hb1.mono (PyData.depthAll_keys_le ps)).append (hb2.mono (PyData.depthAll_vals_le ps))
    have hna : a ∉ b1 ++ b2 := not_mem_of_deeper rd (by simp only [PyData.depth]; omega) hb
    refine ⟨_, a :: (b1 ++ b2), rd, ReadAtMost.cons rd (by simp only [PyData.depth]; omega) hb, ?_⟩
    simp only [PyData.depth, PyData.shown, PyData.shownKv_eq]
    exact ReprK.dict h1 h2.1 h3 hsys hna (ReprEntriesK.of_two es.toList _ _
      (k1.more_le (fun b hb => List.mem_append_left _ hb) (PyData.depthAll_keys_le ps)) (k2.more_le (fun b hb => List.mem_append_right _ hb) (PyData.depthAll_vals_le ps)))
theorem Reps.showK (I : HOk P w H h) (hn : h.NoDigits) : ∀ {ds : List D} {vs : List V} {us : List Value}, Reps K H vs ds → Vals vs us → ShowBAll ds → (∀ t ∈ PyData.shownAll ds, t.length ≤ sizeLine) →
    ∃ as bs, ReadsAll h us ds as ∧ ReadAtMost h (PyData.depthAll ds) bs ∧ ReprAllK P w bs h (PyData.depthAll ds) us (PyData.shownAll ds)
  | _, _, _, .nil, .nil, _, _ => ⟨[], [], .nil, (fun _ q => nomatch q), by simp only [PyData.shownAll]; exact .nil⟩
  | d :: ds, _, _, .cons h1 r1, .cons q1 q2, hs, hz => by
    have hs : ShowB d ∧ ShowBAll ds := by simpa only [ShowBAll] using hs
    simp only [PyData.shownAll] at hz
    obtain ⟨a1, b1, r1', hb1, k1⟩ := Rep.showK I hn h1 q1 hs.1 (hz _ List.mem_cons_self)
    obtain ⟨a2, b2, r2', hb2, k2⟩ := Reps.showK I hn r1 q2 hs.2 fun t ht => hz t (List.mem_cons_of_mem _ ht)
    refine ⟨a1 ++ a2, b1 ++ b2, .cons r1' r2', ?_, ?_⟩
    · exact (hb1.mono (by simp only [PyData.depthAll]; omega)).append (hb2.mono (by simp only [PyData.depthAll]; omega))
    · simp only [PyData.depthAll, PyData.shownAll]
      exact .cons ((k1.more fun b hb => List.mem_append_left _ hb).level_le (Nat.le_max_left _ _)) (k2.more_le (fun b hb => List.mem_append_right _ hb) (Nat.le_max_right _ _))
theorem RepKV.showK (I : HOk P w H h) (hn : h.NoDigits) : ∀ {ps : List (D × D)} {kvs : List (Key × V)} {us : List Value}, RepKV K H kvs ps → Vals (kvs.map (·.2)) us → ShowBAll (ps.map (·.2)) → (∀ t ∈ PyData.shownAll (ps.map (·.2)), t.length ≤ sizeLine) →
    ∃ as bs, ReadsAll h us (ps.map (·.2)) as ∧ ReadAtMost h (PyData.depthAll (ps.map (·.2))) bs ∧ ReprAllK P w bs h (PyData.depthAll (ps.map (·.2))) us (PyData.shownAll (ps.map (·.2)))
  | _, _, _, .nil, .nil, _, _ => ⟨[], [], .nil, (fun _ q => nomatch q), by simp only [List.map_nil, PyData.shownAll]; exact .nil⟩
  | _, _, _, .cons (d := d) (ps := ps) h1 r1, .cons q1 q2, hs, hz => by
    rw [List.map_cons] at hs hz ⊢
    have hs : ShowB d ∧ ShowBAll (ps.map (·.2)) := by simpa only [ShowBAll] using hs
    simp only [PyData.shownAll] at hz
    obtain ⟨a1, b1, r1', hb1, k1⟩ := Rep.showK I hn h1 q1 hs.1 (hz _ List.mem_cons_self)
    obtain ⟨a2, b2, r2', hb2, k2⟩ := RepKV.showK I hn r1 q2 hs.2 fun t ht => hz t (List.mem_cons_of_mem _ ht)
    refine ⟨a1 ++ a2, b1 ++ b2, .cons r1' r2', ?_, ?_⟩
    · exact (hb1.mono (by simp only [PyData.depthAll]; omega)).append (hb2.mono (by simp only [PyData.depthAll]; omega))
    · simp only [PyData.depthAll, PyData.shownAll]
      exact .cons ((k1.more fun b hb => List.mem_append_left _ hb).level_le (Nat.le_max_left _ _)) (k2.more_le (fun b hb => List.mem_append_right _ hb) (Nat.le_max_right _ _))
end
end
end VL

set_option Elab.async false
set_option linter.all false
set_option maxRecDepth 100000
namespace SC
open PySem L2 VL

def bigI : Nat := 10 ^ 2797
theorem shown_int {i : Int} (h : i.natAbs < bigI) : (PyData.shown (.int i)).length ≤ 2800 := by
  have e := int_text_length_le10 (k := 2797) (by decide) h
  show (Str.ofString (toString i)).length ≤ 2800
  rw [ofString_length]
  omega
structure Fit (M : Nat) (t : D) : Prop where
  sh : ShowB t
  dp : t.depth ≤ 5
  lv : t.leavesShort 2800 = true
  bk : t.bulk ≤ M
structure FitAll (M : Nat) (ts : List D) : Prop where
  sh : ShowBAll ts
  dp : PyData.depthAll ts ≤ 4
  lv : PyData.leavesShortAll 2800 ts = true
  bk : PyData.bulkAll ts ≤ M
theorem FitAll.list {M : Nat} {ts : List D} (h : FitAll M ts) : Fit M (.list ts) :=
  ⟨by simpa only [ShowB] using h.sh, by have := h.dp; simp only [PyData.depth]; omega, by simpa only [PyData.leavesShort] using h.lv, by simpa only [PyData.bulk] using h.bk⟩
theorem FitAll.tuple {M : Nat} {ts : List D} (h : FitAll M ts) : Fit M (.tuple ts) :=
  ⟨by simpa only [ShowB] using h.sh, by have := h.dp; simp only [PyData.depth]; omega, by simpa only [PyData.leavesShort] using h.lv, by simpa only [PyData.bulk] using h.bk⟩
theorem FitAll.nil : FitAll 0 [] := ⟨by simp only [ShowBAll], by simp [PyData.depthAll], by simp [PyData.leavesShortAll], by simp [PyData.bulkAll]⟩
theorem FitAll.cons {M N : Nat} {t : D} {ts : List D} (h : Fit M t) (hd : t.depth ≤ 4) (g : FitAll N ts) : FitAll (M + 1 + N) (t :: ts) :=
  ⟨by simp only [ShowBAll]; exact ⟨h.sh, g.sh⟩, by have := g.dp; simp only [PyData.depthAll]; omega, by simp [PyData.leavesShortAll, h.lv, g.lv], by have := h.bk; have := g.bk; simp only [PyData.bulkAll]; omega⟩
theorem Fit.mono {M N : Nat} {t : D} (h : Fit M t) (l : M ≤ N) : Fit N t := ⟨h.sh, h.dp, h.lv, Nat.le_trans h.bk l⟩
theorem FitAll.mono {M N : Nat} {t : List D} (h : FitAll M t) (l : M ≤ N) : FitAll N t := ⟨h.sh, h.dp, h.lv, Nat.le_trans h.bk l⟩
structure Thing (t : D) : Prop where
  fit : Fit 590 t
  dp : t.depth ≤ 3
  len : ∀ xs, t = .list xs → xs.length ≤ 1000
  nts : ∀ ms : List Int, t = .list (ms.map .int) → ∀ x ∈ ms, x.natAbs < 2 ^ 400000
end SC

set_option Elab.async false
set_option linter.all false
set_option maxRecDepth 100000
namespace SC
open PySem L2 VL

end SC

set_option Elab.async false
set_option linter.all false
set_option maxRecDepth 100000
namespace SC
open PySem L2 VL

structure NoSc (d : D) : Prop where
  v : valOk d
  s : scoreD d = false
  f : Fit 1700 d
  dp : d.depth ≤ 3
theorem FitAll.append {M N : Nat} : ∀ {ts us : List D}, FitAll M ts → FitAll N us → FitAll (M + N) (ts ++ us)
  | [], _, _, g => g.mono (Nat.le_add_left _ _)
  | t :: ts, us, h, g => by
    obtain ⟨h1, h2, h3, h4⟩ := h
    simp only [ShowBAll] at h1
    simp only [PyData.depthAll] at h2
    simp only [PyData.leavesShortAll, Bool.and_eq_true] at h3
    simp only [PyData.bulkAll] at h4
    obtain ⟨i1, i2, i3, i4⟩ := FitAll.append (M := PyData.bulkAll ts) ⟨h1.2, by omega, h3.2, Nat.le_refl _⟩ g
    refine ⟨?_, ?_, ?_, ?_⟩
    · simp only [List.cons_append, ShowBAll]; exact ⟨h1.1, i1⟩
    · simp only [List.cons_append, PyData.depthAll]; omega
    · simp only [List.cons_append, PyData.leavesShortAll, Bool.and_eq_true]; exact ⟨h3.1, i3⟩
    · simp only [List.cons_append, PyData.bulkAll]; omega
end SC

set_option Elab.async false
set_option linter.all false
set_option maxRecDepth 100000
namespace VL
open PySem PySem.Spec PyProof.Rows L2

def adr (mg : Str → Option Value) (x : Str) : Addr := match mg x with
  | some (.ref a) => a
  | _ => 0
def tAs (mg : Str → Option Value) : List Str → TA
  | [] => tNil
  | x :: r => tCons (tC (.ref (adr mg x))) (tAs mg r)
section
variable {X : Cx} {G : Gb} {W : WX} {mg : Str → Option Value} {k : Nat} {fe e : Expr} {es : List Expr} {tf : TE} {t : TA} {w : WA} {p p2 pos : Pos}
structure DF (X : Cx) (G : Gb) (k : Nat) (mg : Str → Option Value) (es : List Expr) (xs : List Str) (fss : List FS) : Prop where
  pa : PA X es (tAs mg xs)
  ln : xs.length = fss.length
  ok : ∀ (j : Nat) (x : Str) (fs : FS), xs[j]? = some x → fss[j]? = some fs → ∃ fd ps, FnOk X.prog X.w X.K X.mg X.base (L2N.CX X.prog X.w) k (adr mg x) fd ps (lift G fs) ∧ PySem.W.keepIn X.K (.ref (adr mg x)) = true ∧ Binds X.K fd ps []
def wPick (i : Nat) (c : Int) (fss : List FS) (wa : WA) : WE := fun Γ Q X => match Γ[i]? with
  | some (.sh (.int n)) => 0 ≤ n - c ∧ (match fss[(n - c).toNat]? with
    | some fs => wCall fs [] wa Γ Q X
    | none => False)
  | _ => False
end
def slPick (c : Int) (k : Int → Prop) : Sl → Prop
  | .sh (.int n) => 0 ≤ n - c ∧ k (n - c)
  | _ => False
@[simp ↓] theorem ev_wPick (i : Nat) (c : Int) (fss : List FS) (wa : WA) (Γ : Ev) (Q : R → Ev → Prop) (X : XW) : wPick i c fss wa Γ Q X = getS Γ i fun s => slPick c (fun m => match fss[m.toNat]? with
    | some fs => wCall fs [] wa Γ Q X
    | none => False) s := by
  rw [getS_at]
  unfold wPick
  cases Γ[i]? with
  | none => rfl
  | some s =>
    cases s with
    | sh d => cases d <;> rfl
    | _ => rfl
@[simp ↓] theorem slPick_i (c n : Int) (k : Int → Prop) : slPick c k (.sh (.int n)) = (0 ≤ n - c ∧ k (n - c)) := rfl
end VL

set_option Elab.async false
set_option linter.all false
set_option maxRecDepth 100000
namespace SC
open PySem L2 VL

def barD (l : List It) (v : D) : Option Nat := match v with
  | .int i => if 0 ≤ i then (match l[i.toNat]? with
    | some (.bar _) => some i.toNat
    | _ => none) else none
  | _ => none
def ScV (s : D) (Q X : Prop) (k : List It → Prop) : Prop := valOk s ∧ (scoreD s = false → X) ∧ (scoreD s = true → ∃ l : List It, s = .list (sc l) ∧ ok [] l ∧ l.length ≤ 290 ∧ k l)
end SC

set_option Elab.async false
set_option linter.all false
set_option maxRecDepth 100000
set_option maxHeartbeats 2000000
namespace VL
open PySem PySem.Spec PyProof.Rows L2 HotX

section
variable {prog : Program} {w : World} {A : Around} {E : Value → Shared → Prop} {s : Shared}
end

def Hk (A : Around) (H : Hp) : Prop := ∃ a cls, A.handled = some (.ref a) ∧ H a = some (KpO cls a)
theorem Hk.at {X : Cx} {pins : List (Addr × Obj)} {σ : St} {H : Hp} {s : Shared} (h : Hk X.A H) (I : Inv X pins σ H s) : ∃ x1, HotAt X.A x1 s.heap := by
  obtain ⟨a, cls, hh, ha⟩ := h
  obtain ⟨⟨oe, vs, h1, z, d⟩, _⟩ := (show ObjOk X.prog X.w H s.heap a (KpO cls a) from I.hok a _ ha)
  exact ⟨a, hh, oe, vs, h1, d, z.2.2 vs d⟩
structure TurnK (P : Program) (w : World) (K : PySem.W.Frag) (tg : Expr) (J : It) (fp : List Addr) (it : Addr) (tn : Nat → Heap → Prop) : Prop where
  mem : it ∈ fp
  obj : ∀ i h, tn i h → ∀ b ∈ fp, ∃ o, h.get? b = some o ∧ ∀ v, o.data ≠ .cell v
  keep : ∀ i h h', tn i h → (∀ b ∈ fp, ∀ o, h.get? b = some o → h'.get? b = some o) → tn i h'
  item : ∀ (X : Cx), X.prog = P → X.w = w → X.K = K → ∀ (i : Nat) (pins : List (Addr × Obj)) (s : Shared) (σ : St) (H : Hp) (E : Value → Shared → Prop), Inv X pins σ H s → (∀ b ∈ fp, FpOk X pins H b) → tn i s.heap → J.go i H →
    wpAny (model P w) X.A (pyNext (.ref it)) (fun r s1 => ∃ u, r = some u ∧
      wpAny (model P w) X.A (letOwnedTupleGo tg (.ref it) u) (fun _ s2 => ∃ x H', Inv X pins σ H' s2 ∧ RelV x u ∧ J.yld i H x H' ∧ tn (i + 1) s2.heap ∧ ∀ b ∈ fp, H' b = none) E s1) E s
  done : ∀ (X : Cx), X.prog = P → X.w = w → X.K = K → ∀ (i : Nat) (pins : List (Addr × Obj)) (s : Shared) (σ : St) (H : Hp) (E : Value → Shared → Prop), Inv X pins σ H s → Hk X.A H → (∀ b ∈ fp, FpOk X pins H b) → tn i s.heap → J.stop i H →
    wpAny (model P w) X.A (pyNext (.ref it)) (fun r s1 => r = none ∧ Inv X pins σ H s1) E s
  self : ∀ (A : Around) (i : Nat) (s : Shared) (Q : Value → Shared → Prop) (E : Value → Shared → Prop), tn i s.heap → Q (.ref it) s → wpAny (model P w) A (pyIter (.ref it)) Q E s
def PIEK (X : Cx) (pins : List (Addr × Obj)) (σ : St) (tg : Expr) (R : It → Hp → Prop) (itv : Value) (s2 : Shared) : Prop :=
  ∃ (it : Addr) (fp : List Addr) (tn : Nat → Heap → Prop) (J : It) (H' : Hp), itv = .ref it ∧ Inv X pins σ H' s2 ∧ TurnK X.prog X.w X.K tg J fp it tn ∧ tn 0 s2.heap ∧ (∀ b ∈ fp, FpOk X pins H' b) ∧ R J H'
structure PIK (X : Cx) (tg iter : Expr) (wi : TI) : Prop where
  run : ∀ (pins : List (Addr × Obj)) (s : Shared) (σ : St) (H : Hp) (R : It → Hp → Prop), Inv X pins σ H s → wi σ H R →
    wpAny (model X.prog X.w) X.A (eval iter X.env) (fun v s1 => wpAny (model X.prog X.w) X.A (pyIter v) (PIEK X pins σ tg R) X.xe s1) X.xe s
section
variable {X : Cx}
end

def slK2 : Sl → Prop
  | .op t _ => t % 10 = 2
  | _ => False
def kepAt (Γ : Ev) (i : Nat) : Prop := match Γ[i]? with
  | some s => slK2 s
  | none => False
@[simp ↓] theorem ev_kepAt (Γ : Ev) (i : Nat) : kepAt Γ i = getS Γ i slK2 := by
  rw [getS_at]; rfl
@[simp ↓] theorem slK2_op (t : Nat) (d : D) : slK2 (.op t d) = (t % 10 = 2) := rfl
section
variable {X : Cx} {G : Gb} {W : WX} {A : Around} {a e : Expr} {es : List Expr} {tg : Expr} {tI : TI} {wI : WI} {ta te : TE} {wa we : WE} {tt : TT} {wt : WT} {g : TG} {gs : TGs} {wg : WG} {wgs : WGs} {vs : List Nat} {ifs : List Expr} {scope : Scope} {own : List (Str × Nat)} {pos : Pos}
def wgTupH (i n : Nat) (b : WGs) : WG := fun d Γ Q => kepAt Γ i ∧ wgTup n b d Γ Q
@[simp ↓] theorem ev_wgTupH (i n : Nat) (b : WGs) (d : D) (Γ : Ev) (Q : Ev → Prop) : wgTupH i n b d Γ Q = (kepAt Γ i ∧ wgTup n b d Γ Q) := rfl
structure DIHt (X : Cx) (G : Gb) (W : WX) (tg e : Expr) (t : TI) (w : WI) : Prop where
  pe : PIK X tg e t
  sim : SimI G W t w
def wLcHt (i : Nat) (vs : List Nat) (wi : WI) (g : WG) (t : WT) (w : WE) : WE := fun Γ Q X => wLc vs wi g t w Γ (fun r Γ' => kepAt Γ' i ∧ Q r Γ') X
@[simp ↓] theorem ev_wLcHt (i : Nat) (vs : List Nat) (wi : WI) (g : WG) (t : WT) (w : WE) (Γ : Ev) (Q : R → Ev → Prop) (X : XW) : wLcHt i vs wi g t w Γ Q X = wLc vs wi g t w Γ (fun r Γ' => kepAt Γ' i ∧ Q r Γ') X := rfl
end
end VL

set_option Elab.async false
set_option linter.all false
set_option maxRecDepth 100000
set_option maxHeartbeats 2000000
namespace VL
open PySem PySem.Spec PyProof.Rows L2 HotX L2H

structure FnHt (P : Program) (w : World) (K : Fg) (mg : Str → Option Value) (base : Heap) (CX : CXT) (k : Nat) (f : Addr) (fd : FuncData) (ps : List Str) (sp : Sp) : Prop where
  len : ∀ vs H Q E, sp vs H Q E → vs.length = ps.length
  run : ∀ (A : Around) (outer : List Env) (s : Shared) (H : Hp) (args : Args) (us : List Value) (a : Addr) (Q : VK) (E : XK), RoomH k A → A.handled = some (.ref a) → Env0 P w K mg base A outer s H → BindsTo s fd args (ps.zip us) → Vals [V.ref a] us → sp [.ref a] H Q E →
    codeAny (model P w) A (.call (.ref f) args) (CR CX outer P w H s Q E) s
section
variable {P : Program} {w : World} {K : Fg} {mg : Str → Option Value} {base : Heap} {x qual : Str} {params : Arguments} {body : List Stmt} {scope : Scope} {dvs : List V} {kws : List (Str × V)} {f : Addr} {fd : FuncData} {N ps : List Str} {k : Nat} {ca : Str → Addr} {fs : FS} {ws : WS}
theorem FnHt.mono {CX : CXT} {j k : Nat} {sp : Sp} (F : FnHt P w K mg base CX j f fd ps sp) (h : j ≤ k) : FnHt P w K mg base CX k f fd ps sp :=
  ⟨F.len, fun A outer s H args us a Q E hr => F.run A outer s H args us a Q E (hr.mono h)⟩
def GdHt (P : Program) (wd : World) (G : Gb) (mg : Str → Option Value) (base : Heap) (k : Nat) (x : Str) (fs : FS) (ps : List Str) : Prop :=
  ∃ (f : Addr) (fd : FuncData), mg x = some (.ref f) ∧ PySem.W.keepIn G.K (.ref f) = true ∧ FnHt P wd G.K mg base (L2N.CX P wd) k f fd ps (lift G fs) ∧ Binds G.K fd ps []
theorem GdHt.mono {wd : World} {G : Gb} {k' : Nat} (h : GdHt P wd G mg base k x fs ps) (l : k ≤ k') : GdHt P wd G mg base k' x fs ps :=
  let ⟨f, fd, h1, h2, h3, h4⟩ := h
  ⟨f, fd, h1, h2, h3.mono l, h4⟩
end
section
variable {X : Cx} {G : Gb} {W : WX} {fs : FS} {ps : List Str} {k : Nat} {x y n : Str} {p p2 pos py pos3 q1 q2 q3 : Pos}
def wTryHt (xs : List Str) (i : Nat) (wb ws : WS) : WS := fun Γ D _ => wb Γ D fun e Γ1 => e.idx = none ∧ e.name ∈ xs ∧ i < Γ1.length ∧
  ws (Γ1.set i (.op 12 (.str e.name))) ⟨fun Γ2 => D.nx (Γ2.set i .no), D.rt, fun Γ2 => D.bk (Γ2.set i .no), fun Γ2 => D.ct (Γ2.set i .no)⟩ fun _ _ => False
@[simp ↓] theorem ev_wTryHt (xs : List Str) (i : Nat) (wb ws : WS) (Γ : Ev) (D : WD) (X : XW) : wTryHt xs i wb ws Γ D X = wb Γ D fun e Γ1 => e.idx = none ∧ e.name ∈ xs ∧ i < Γ1.length ∧ ws (Γ1.set i (.op 12 (.str e.name))) ⟨fun Γ2 => D.nx (Γ2.set i .no), D.rt, fun Γ2 => D.bk (Γ2.set i .no), fun Γ2 => D.ct (Γ2.set i .no)⟩ fun _ _ => False := rfl
end
end VL

set_option Elab.async false
set_option linter.all false
set_option maxRecDepth 100000
namespace SC
open PySem L2 VL

def repD (l : List It) (v : D) : Option Nat := match v with
  | .int i => if 0 ≤ i then (match l[i.toNat]? with
    | some (.rep _ _) => some i.toNat
    | _ => none) else none
  | _ => none
end SC

set_option Elab.async false
set_option linter.all false
set_option maxRecDepth 100000
namespace VL
open PySem PySem.Spec PyProof.Rows L2

section
variable {X : Cx} {G : Gb} {W : WX} {k : Nat} {x : Str} {fs : FS} {ps : List Str} {p pos : Pos}
end

def fs_law_drawX : FS := fun io ds Q _ => ∃ (n : Nat) (m : Int), io = some (.op 1 (.int (n : Int))) ∧ n ≤ 1000000 ∧ ds = [.int m] ∧ 0 < m ∧ m.natAbs < 2 ^ 9000 ∧ ∀ r, 0 ≤ r → r < m → Q (.sh (.int r)) (some (.op 1 (.int ((n + 1 : Nat) : Int))))
end VL

set_option Elab.async false
set_option linter.all false
set_option maxRecDepth 100000
namespace SC
open PySem L2 VL
end SC

set_option Elab.async false
set_option linter.all false
set_option maxRecDepth 100000
namespace L2
open PySem PySem.Spec PyProof.Rows
end L2
namespace VL
open PySem L2
section
variable {G : Gb}
def oListS : Op1 := fun d k => match d with
  | .str x => x.cps.size ≤ sizeLine ∧ k (.ow (.list (signsD x)))
  | _ => False
@[simp ↓] theorem ev_oListS (x : Str) (k : R → Prop) : oListS (.str x) k = (x.cps.size ≤ sizeLine ∧ k (.ow (.list (signsD x)))) := rfl
end
end VL

set_option Elab.async false
set_option linter.all false
set_option maxRecDepth 100000
namespace VL
open PySem PySem.Spec PyProof.Rows L2

def wDeck (j i : Nat) : WS := fun Γ D _ => match Γ[j]? with
  | some (.op 0 (.list l)) => (∃ ns : List Int, l = ns.map .int ∧ ns.length ≤ 63) ∧ i < Γ.length ∧ i ≠ j ∧ D.nx (Γ.set i (.op 11 (.int 0)))
  | _ => False
section
variable {X : Cx} {K : Fg} {ca : Str → Addr} {W : WX} {k : Nat} {x : Str} {ps : List Str} {p p2 p3 pos pos' : Pos}
end
def slDk (i j : Nat) (Γ : Ev) (k : Ev → Prop) : Sl → Prop
  | .op 0 (.list l) => (∃ ns : List Int, l = ns.map .int ∧ ns.length ≤ 63) ∧ i < Γ.length ∧ i ≠ j ∧ k (Γ.set i (.op 11 (.int 0)))
  | _ => False
@[simp ↓] theorem ev_wDeck (j i : Nat) (Γ : Ev) (D : WD) (X : XW) : wDeck j i Γ D X = getS Γ j (slDk i j Γ D.nx) := by
  rw [getS_at]
  unfold wDeck
  cases Γ[j]? with
  | none => rfl
  | some s =>
    cases s with
    | op t d => cases t <;> cases d <;> rfl
    | _ => rfl
@[simp ↓] theorem slDk_op (i j : Nat) (Γ : Ev) (k : Ev → Prop) (l : List D) : slDk i j Γ k (.op 0 (.list l)) = ((∃ ns : List Int, l = ns.map .int ∧ ns.length ≤ 63) ∧ i < Γ.length ∧ i ≠ j ∧ k (Γ.set i (.op 11 (.int 0)))) := rfl
end VL

set_option Elab.async false
set_option linter.all false
set_option maxRecDepth 100000
namespace SC
open PySem L2 VL
end SC

set_option Elab.async false
set_option linter.all false
set_option maxRecDepth 100000
namespace SC
open PySem L2 VL
theorem dkW {c m : Int} {Q : R → Option Sl → Prop} {X : Exn → Option Sl → Prop} (c0 : 0 ≤ c) (hn : c ≤ 1000000) (h0 : 0 < m) (h1 : m.natAbs < 2 ^ 9000) (q : ∀ r, 0 ≤ r → r < m → Q (.sh (.int r)) (some (.op 1 (.int (c + 1))))) :
    fs_law_drawX (some (.op 1 (.int c))) [.int m] Q X := by
  obtain ⟨n, rfl⟩ : ∃ n : Nat, c = (n : Int) := ⟨c.toNat, by omega⟩
  exact ⟨n, m, rfl, by omega, rfl, h0, h1, fun r r0 r1 => q r r0 r1⟩
theorem dk {c m : Int} {Q : R → Option Sl → Prop} {X : Exn → Option Sl → Prop} (c0 : 0 ≤ c) (hn : c ≤ 1000000) (h0 : 0 < m) (h1 : m < 2 ^ 64) (q : ∀ r, 0 ≤ r → r < m → Q (.sh (.int r)) (some (.op 1 (.int (c + 1))))) :
    fs_law_drawX (some (.op 1 (.int c))) [.int m] Q X := dkW c0 hn h0 (Nat.lt_of_lt_of_le (by omega : m.natAbs < 2 ^ 64) (Nat.pow_le_pow_right (by decide) (by decide))) q
theorem erase_nd : ∀ {l : List Str} {j : Nat} {n : Str}, l.Nodup → l[j]? = some n → n ∉ l.eraseIdx j
  | [], _, _, _, h => by simp at h
  | a :: l, 0, n, hn, h => by
    have : a = n := by simpa using h
    subst this
    exact (List.nodup_cons.mp hn).1
  | a :: l, j + 1, n, hn, h => by
    have h : l[j]? = some n := by simpa using h
    have hn := List.nodup_cons.mp hn
    intro z
    rcases List.mem_cons.mp z with z | z
    · exact hn.1 (z ▸ List.mem_of_getElem? h)
    · exact erase_nd hn.2 h z
structure DkI (l : List It) (ms us : List Str) (i : Nat) : Prop where
  h : ok [] l
  hl : l.length ≤ i
  mm : ∀ x, x ∈ mk [] l ↔ x ∈ ms
  un : ∀ x ∈ us, nameB x = true ∧ x ∉ ms
  nd : us.Nodup
  ul : us.length ≤ 40
  ln : 40 ≤ us.length + i
  nm : ∀ x ∈ ms, nameB x = true
  ml : ms.length ≤ i
theorem DkI.bar {l : List It} {ms us : List Str} {i : Nat} (I : DkI l ms us i) {n : Str} (hn : nameB n = true) : DkI (l ++ [.bar n]) ms us (i + 1) := by
  have h1 := I.hl; have h2 := I.ul; have h3 := I.ln; have h4 := I.ml
  exact ⟨(ok_app _ _ _).mpr ⟨I.h, hn, trivial⟩, by simp; omega, fun x => by rw [mk_app]; exact I.mm x, I.un, I.nd, I.ul, by omega, I.nm, by omega⟩
theorem DkI.rep {l : List It} {ms us : List Str} {i : Nat} (I : DkI l ms us i) {n : Str} (hn : n ∈ ms) {c : Int} (c1 : 1 ≤ c) (c2 : c < 2 ^ 31) : DkI (l ++ [.rep n c]) ms us (i + 1) := by
  have h1 := I.hl; have h2 := I.ul; have h3 := I.ln; have h4 := I.ml
  exact ⟨(ok_app _ _ _).mpr ⟨I.h, I.nm n hn, (I.mm n).mpr hn, ⟨c1, c2⟩, trivial⟩, by simp; omega, fun x => by rw [mk_app]; exact I.mm x, I.un, I.nd, I.ul, by omega, I.nm, by omega⟩
theorem DkI.mark {l : List It} {ms us : List Str} {i j : Nat} {n : Str} (I : DkI l ms us i) (hj : us[j]? = some n) : DkI (l ++ [.mark n]) (ms ++ [n]) (us.eraseIdx j) (i + 1) := by
  have h1 := I.hl; have h2 := I.ul; have h3 := I.ln; have h4 := I.ml
  have hjl := (List.getElem?_eq_some_iff.mp hj).1
  have hu := I.un n (List.mem_of_getElem? hj)
  have el : (us.eraseIdx j).length = us.length - 1 := by rw [List.length_eraseIdx]; simp [hjl]
  refine ⟨(ok_app _ _ _).mpr ⟨I.h, hu.1, fun z => hu.2 ((I.mm n).mp z), trivial⟩, by simp; omega, fun x => ?_, fun x hx => ?_, I.nd.sublist (List.eraseIdx_sublist _ _), by omega, by omega, fun x hx => ?_, by simp; omega⟩
  · rw [mk_app]
    show x ∈ n :: SC.mk [] l ↔ _
    rw [List.mem_cons, List.mem_append, I.mm x]
    simp [or_comm]
  · have hx2 := List.mem_of_mem_eraseIdx hx
    refine ⟨(I.un x hx2).1, fun z => ?_⟩
    rcases List.mem_append.mp z with z | z
    · exact (I.un x hx2).2 z
    · have : x = n := by simpa using z
      subst this
      exact erase_nd I.nd hj hx
  · rcases List.mem_append.mp hx with z | z
    · exact I.nm x z
    · have : x = n := by simpa using z
      rw [this]; exact hu.1
end SC

set_option Elab.async false
set_option linter.all false
set_option maxRecDepth 100000
set_option pp.maxSteps 600
namespace SC
open PySem L2 VL

end SC

set_option Elab.async false
set_option linter.all false
set_option maxRecDepth 100000
namespace SC
open PySem L2 VL

abbrev Act := List (Nat × Int)
def Vs (L : List It) : Nat → Nat → Act → Prop
  | _, _, [] => True
  | ins, m, q :: a => (isRep L q.1 = true ∧ m ≤ q.1 ∧ stt L q.1 ≤ ins ∧ 1 ≤ q.2 ∧ q.2 ≤ cof L q.1) ∧ Vs L q.1 (q.1 + 1) a
def eM (m : Nat) : Act → Nat
  | [] => m
  | q :: a => eM (q.1 + 1) a
def aw (w : Nat → Int) (a : Act) : Int := (a.map fun q => q.2 * w q.1).sum
def sg (L : List It) (r : Nat) : Int := (tl L r : Int) - (tl L (stt L r) : Int)
def tv (L : List It) (p : Nat) (a : Act) : Int := (tl L p : Int) + aw (sg L) a
section
variable {L : List It}
theorem Vs.out {ins ins' m : Nat} (hi : ins ≤ ins') : ∀ {a : Act}, Vs L ins m a → Vs L ins' m a
  | [], _ => True.intro
  | q :: a, ⟨⟨h1, h2, h3, h5⟩, h4⟩ => ⟨⟨h1, h2, by omega, h5⟩, h4⟩
theorem Vs.up {ins m : Nat} (hm : isRep L m = false) : ∀ {a : Act}, Vs L ins m a → Vs L ins (m + 1) a
  | [], _ => True.intro
  | q :: a, ⟨⟨h1, h2, h3⟩, h4⟩ => ⟨⟨h1, by
    have : m ≠ q.1 := fun z => by rw [z] at hm; rw [h1] at hm; cases hm
    omega, h3⟩, h4⟩
section
variable {F w : Nat → Int} (hF : ∀ i j, i ≤ j → j ≤ L.length → F i ≤ F j) (hw : ∀ r, isRep L r = true → 0 ≤ w r ∧ F r + cof L r * w r ≤ F (r + 1))
include hF hw
end
end
end SC

set_option Elab.async false
set_option linter.all false
set_option maxRecDepth 100000
namespace SC
open PySem L2 VL

def entD (q : Nat × Int) : D := .tuple [.int (q.1 : Int), .int q.2]
def aD (a : Act) : List D := a.map entD
end SC

set_option Elab.async false
set_option linter.all false
set_option maxRecDepth 100000
namespace SC
open PySem L2 VL

end SC

set_option Elab.async false
set_option linter.all false
set_option maxRecDepth 100000
namespace SC
open PySem L2 VL

end SC

set_option Elab.async false
set_option linter.all false
set_option maxRecDepth 100000
namespace SC
open PySem L2 VL

section
variable {l : List It}
end
def plL (l : List It) (t m : Nat) : List Str := ((nmL l l.length).drop t).take m
end SC

set_option Elab.async false
set_option linter.all false
set_option maxRecDepth 100000
namespace VL
open PySem L2
def wCallMx (fs : FS) (is : List Nat) (n m : Nat) (wa wk : WA) : WE := fun Γ Q X => wa Γ (fun rs Γ1 => wk Γ1 (fun rs2 Γ2 => frAll (rs ++ rs2) Γ2 fun ds Γ3 => rs.length = n ∧ rs2.length = m ∧ fs none (reord is ds) (fun r _ => Q r Γ3) fun x _ => X x Γ3) X) X
def GdM (P : Program) (wd : World) (G : Gb) (mg : Str → Option Value) (base : Heap) (k : Nat) (x : Str) (fs : FS) (ps : List Str) (n : Nat) (ks : List Str) (is : List Nat) : Prop :=
  ∃ (f : Addr) (fd : FuncData), mg x = some (.ref f) ∧ PySem.W.keepIn G.K (.ref f) = true ∧ FnOk P wd G.K mg base (L2N.CX P wd) k f fd ps (lift G fs) ∧ ∀ (s : Shared) (us ws : List Value), us.length = n → ws.length = ks.length → BindsTo s fd ⟨us, ks.zip ws⟩ (ps.zip (reord is (us ++ ws)))
theorem GdM.mono {P : Program} {wd : World} {G : Gb} {mg : Str → Option Value} {base : Heap} {k k' : Nat} {x : Str} {fs : FS} {ps ks : List Str} {n : Nat} {is : List Nat} (h : GdM P wd G mg base k x fs ps n ks is) (l : k ≤ k') : GdM P wd G mg base k' x fs ps n ks is :=
  let ⟨f, fd, h1, h2, h3, h4⟩ := h
  ⟨f, fd, h1, h2, h3.mono l, h4⟩
theorem Holds.len {G : Gb} {Hi : Hp} {σ : St} {vs : List V} {rs : List R} (h : Holds G Hi σ vs rs) : vs.length = rs.length := by
  induction h with
  | nil => rfl
  | cons a r ih => simp [ih]
section
variable {X : Cx} {G : Gb} {W : WX} {e : Expr} {es : List Expr} {te : TE} {we : WE} {pos p kpos : Pos} {t tk : TA} {w wk : WA} {kws : List Keyword} {nm : Option Str} {k n : Nat} {x : Str} {fs : FS} {ps ks : List Str} {is : List Nat}
end
@[simp ↓] theorem ev_wCallMx (fs : FS) (is : List Nat) (n m : Nat) (wa wk : WA) (Γ : Ev) (Q : R → Ev → Prop) (X : XW) : wCallMx fs is n m wa wk Γ Q X =
    wa Γ (fun rs Γ1 => wk Γ1 (fun rs2 Γ2 => frAll (rs ++ rs2) Γ2 fun ds Γ3 => rs.length = n ∧ rs2.length = m ∧ fs none (reord is ds) (fun r _ => Q r Γ3) fun x _ => X x Γ3) X) X := rfl
end VL
namespace L2
open PySem PySem.Spec PyProof.Rows
end L2

set_option Elab.async false
set_option linter.all false
set_option maxRecDepth 100000
namespace SC
open PySem L2 VL
end SC

set_option Elab.async false
set_option linter.all false
set_option maxRecDepth 100000
namespace SC
open PySem L2 VL
end SC

set_option Elab.async false
set_option linter.all false
set_option maxRecDepth 100000
namespace VL
open PySem L2
section
variable {X : Cx} {G : Gb} {W : WX}
def oIdx : OpMR := fun d ds k => match ds with
  | [e] => isL d fun l => SeqAt.shaped (.list l) = true ∧ SeqAt.shaped e = true ∧ ∃ (j : Nat) (z : D), l[j]? = some z ∧ PyData.eqv z e = true ∧ (∀ (m : Nat) (z' : D), m < j → l[m]? = some z' → PyData.eqv z' e = false) ∧ k (.sh (.int (j : Nat)))
  | _ => False
@[simp ↓] theorem ev_idx (l : List D) (e : D) (k : R → Prop) : oIdx (.list l) [e] k = (SeqAt.shaped (.list l) = true ∧ SeqAt.shaped e = true ∧ ∃ (j : Nat) (z : D), l[j]? = some z ∧ PyData.eqv z e = true ∧ (∀ (m : Nat) (z' : D), m < j → l[m]? = some z' → PyData.eqv z' e = false) ∧ k (.sh (.int (j : Nat)))) := rfl
end
end VL

set_option Elab.async false
set_option linter.all false
set_option maxRecDepth 100000
set_option maxHeartbeats 2000000
namespace SC
open PySem PySem.Spec PyProof.Rows L2
section
variable {X : Cx}
end
end SC
namespace VL
open PySem L2
variable {X : Cx} {G : Gb} {H : Hp}
end VL

set_option Elab.async false
set_option linter.all false
set_option maxRecDepth 100000
namespace SC
open PySem L2 VL
end SC

set_option Elab.async false
set_option linter.all false
set_option maxRecDepth 100000
namespace VL
open PySem L2 RZ
section
variable {Hi H : Hp}
theorem Items.zipT {K : Fg} {a b : Addr} {xs ys : List V} {ds es : List D} (h : SqT K Hi a xs) (r : Reps K Hi xs ds) (h2 : SqT K Hi b ys) (r2 : Reps K Hi ys es) : Items K Hi (ItzT K a b) (List.zipWith (fun x y => .tuple [x, y]) ds es) where
  stop := fun Hi' H i e k hi => ⟨xs, ys, (e.trans k).sqT h, (e.trans k).sqT h2, by
    have := r.length
    have := r2.length
    simp at hi
    omega⟩
  go := fun Hi' H i e k hi => by
    rw [List.length_zipWith] at hi
    obtain ⟨v, q1, _⟩ := r.get (List.getElem?_eq_getElem (show i < ds.length by omega))
    obtain ⟨w, q2, _⟩ := r2.get (List.getElem?_eq_getElem (show i < es.length by omega))
    exact ⟨xs, ys, v, w, (e.trans k).sqT h, (e.trans k).sqT h2, q1, q2⟩
  yld := fun Hi' H i x H' d e k hd y => by
    obtain ⟨T, x1, x2, rfl, hT, rfl, y1, y2⟩ := y
    rw [List.getElem?_zipWith] at hd
    cases q1 : ds[i]? with
    | none => rw [q1] at hd; cases hd
    | some d1 =>
      cases q2 : es[i]? with
      | none => rw [q1, q2] at hd; cases hd
      | some d2 =>
        rw [q1, q2] at hd
        cases hd
        obtain ⟨v, z1, z2⟩ := r.get q1
        obtain ⟨w, z3, z4⟩ := r2.get q2
        have := y1 xs ((e.trans k).sqT h)
        rw [z1] at this; cases this
        have := y2 ys ((e.trans k).sqT h2)
        rw [z3] at this; cases this
        exact yld_tup k hT (.cons (z2.mono e) (.one (z4.mono e)))
end
def wiZA (wa : WA) : WI := fun Γ Q X => wa Γ (fun rs Γ1 => frAll rs Γ1 fun ds Γ2 => match ds with
  | [.list l, .list m] => Q (List.zipWith (fun x y => .tuple [x, y]) l m) Γ2
  | [.tuple l, .tuple m] => Q (List.zipWith (fun x y => .tuple [x, y]) l m) Γ2
  | _ => False) X
section
variable {G : Gb} {W : WX}
theorem simi_zipA {t : TA} {w : WA} (h : SimA G W t w) : SimI G W (iZipA G.K t) (wiZA w) := by
  intro C Hi σ H Γ R Qd Xd c hw hR hX
  refine h C Hi σ H Γ _ _ Xd c hw (fun vs rs H1 Hi1 Γ1 e1 c1 h1 q1 => ?_) hX
  obtain ⟨ds, Hi2, Γ2, e2, c2, rp, q2⟩ := h1.share (Ext.refl _) c1 q1
  split at q2
  · rename_i l m
    cases rp with
    | cons r1 rp =>
      cases rp with
      | cons r2 rp =>
        cases rp
        cases r1 with
        | lst s1 p1 =>
          cases r2 with
          | lst s2 p2 => exact ⟨_, _, _, _, rfl, .inl ⟨SqL.of (c2.imm _ _ s1), SqL.of (c2.imm _ _ s2), hR _ _ H1 Hi2 Γ2 (e1.trans e2) c2 (Items.zip (SqL.of s1) p1 (SqL.of s2) p2) q2⟩⟩
  · rename_i l m
    cases rp with
    | cons r1 rp =>
      cases rp with
      | cons r2 rp =>
        cases rp
        cases r1 with
        | tup s1 p1 =>
          cases r2 with
          | tup s2 p2 => exact ⟨_, _, _, _, rfl, .inr ⟨SqT.of (c2.imm _ _ s1), SqT.of (c2.imm _ _ s2), hR _ _ H1 Hi2 Γ2 (e1.trans e2) c2 (Items.zipT (SqT.of s1) p1 (SqT.of s2) p2) q2⟩⟩
  · exact q2.elim
end
section
variable {X : Cx} {G : Gb} {W : WX} {a b : Expr} {t : TA} {w : WA} {p pos p2 : Pos}
theorem di_zipA {kk : Nat} {elts : List Expr} (hK : X.K = G.K) (hm : X.mg "zip" = none) (h : DA X G W [a, b] t w) (hg : Gl X "zip" := by rfl) (hs : starEach [a, b] X.env = (false, eval a X.env) :: starEach [b] X.env := by rfl) (hpl : (backTo pos (starEach [b] X.env)).any (·.1) = false := by rfl) :
    DI X G W (.Tuple elts kk p2) (.Call (.Name "zip" p) [a, b] [] pos) (iZipA G.K t) (wiZA w) := ⟨by rw [← hK]; exact pi_zipA hg hm h.pe hs hpl, simi_zipA h.sim⟩
end
@[simp ↓] theorem ev_wiZA (wa : WA) (Γ : Ev) (Q : List PyData → Ev → Prop) (X : XW) : wiZA wa Γ Q X = (wa Γ (fun rs Γ1 => frAll rs Γ1 fun ds Γ2 => match ds with
  | [.list l, .list m] => Q (List.zipWith (fun x y => .tuple [x, y]) l m) Γ2
  | [.tuple l, .tuple m] => Q (List.zipWith (fun x y => .tuple [x, y]) l m) Γ2
  | _ => False) X) := rfl
end VL

set_option Elab.async false
set_option linter.all false
set_option maxRecDepth 100000
namespace SC
open PySem L2 VL
def atomD : D → Prop
  | .int _ => True
  | .bool _ => True
  | .str s => PyData.strOk s = true
  | .none => True
  | _ => False
def SameT : Nat → D → Prop
  | 0, _ => False
  | n + 1, a => atomD a ∨ ∃ xs : List D, (a = .list xs ∨ a = .tuple xs) ∧ xs.length ≤ 100000 ∧ ∀ x ∈ xs, SameT n x
def fsRec_law_same (n : Nat) : FS := fun io ds Q _ => io = none ∧ ∃ a, ds = [a, a] ∧ SameT n a ∧ Q (.sh (.bool true)) none
theorem lRec_law_same (n : Nat) : FnL (fsRec_law_same n) 2 := by
  intro io ds Q X h
  obtain ⟨rfl, a, rfl, _⟩ := h
  rfl
theorem no_lift {G : Gb} {vs : List V} {H : Hp} {Q : VK} {E : XK} (h : lift G (fsRec_law_same 0) vs H Q E) : False := by
  obtain ⟨io, ds, Hi, Qd, Xd, pre, post, fp, _, _, _, _, _, ⟨_, a, _, z, _⟩, _⟩ := h
  exact z
def w_law_same (fsr : FS) : WS := wSeq (wIfS (wT (wIsi2 "list" "tuple" (wVar 1))) (wSeq (wIfS (wOr (wNot (wT (wIsi2 "list" "tuple" (wVar 0)))) (wT (wOp oNe (wIsi "list" (wVar 0)) (wIsi "list" (wVar 1))))) (wRet (wC (.bool false))) (wNext)) (wRet (wAndV (wOp oEq (wCB (o1 oLen) (wCons (wVar 0) (wNil))) (wCB (o1 oLen) (wCons (wVar 1) (wNil)))) (wCB (o1 oAll) (wCons (wLc [2, 3] (wiZA (wCons (wVar 0) (wCons (wVar 1) (wNil)))) (wgTup 2 (wgCons (wgName 2) (wgCons (wgName 3) (wgNil)))) (wYes) (wCall fsr [] (wCons (wVar 2) (wCons (wVar 3) (wNil))))) (wNil)))))) (wNext)) (wRet (wAndV (wOp oEq (wIsi "bool" (wVar 0)) (wIsi "bool" (wVar 1))) (wOp oEq (wVar 0) (wVar 1))))
theorem fvRec_law_same (n : Nat) : FnV (fsRec_law_same (n + 1)) 4 (w_law_same (fsRec_law_same n)) := by
  rintro io ds Q X ⟨rfl, a, rfl, ha, q⟩
  show w_law_same (fsRec_law_same n) [.sh a, .sh a, .no, .no] _ _
  have sb : ∀ b : Bool, SeqAt.shaped (.bool b) = true := fun b => by cases b <;> decide +kernel
  have eb : ∀ b : Bool, PyData.eqv (.bool b) (.bool b) = true := fun b => by cases b <;> decide +kernel
  have sn : SeqAt.shaped .none = true := by decide +kernel
  have en : PyData.eqv .none .none = true := by decide +kernel
  have t1 : isT "int" "list" = false ∧ isT "int" "tuple" = false ∧ isT "bool" "list" = false ∧ isT "bool" "tuple" = false ∧ isT "str" "list" = false ∧ isT "str" "tuple" = false ∧ isT "NoneType" "list" = false ∧ isT "NoneType" "tuple" = false := by decide +kernel
  obtain ⟨t1, t2, t3, t4, t5, t6, t7, t8⟩ := t1
  rcases ha with ha | ⟨xs, ha, hl, hx⟩
  · cases a with
    | int i =>
      simp [w_law_same, t1, t2, sb, eb, shaped_int, eqv_int]
      exact q
    | bool b =>
      simp [w_law_same, t3, t4, sb, eb]
      exact q
    | str s =>
      have hs : SeqAt.shaped (.str s) = true := shaped_str ha
      simp [w_law_same, t5, t6, sb, eb, hs, eqv_str]
      exact q
    | none =>
      simp [w_law_same, t7, t8, sb, eb, sn, en]
      exact q
    | _ => exact ha.elim
  · have ez : List.zipWith (fun x y => PyData.tuple [x, y]) xs xs = xs.map fun x => PyData.tuple [x, x] := by
      clear hl hx
      induction xs with
      | nil => rfl
      | cons x xs ih => simp [ih]
    rcases ha with rfl | rfl
    all_goals
      simp [w_law_same, sb, eb, shaped_int, eqv_int, ev_wLc, okW, wipeE, ez]
      refine lcm_map xs (fun x => .tuple [x, x]) (fun _ => .bool true) (by omega) (fun x acc k hm hz hk => ?_) ?_
      · simp [lcT, wipeE]
        refine ⟨rfl, x, rfl, hx x hm, ?_⟩
        simp
        exact ⟨hz, hk⟩
      · simp [restE]
        refine ⟨xs.map fun _ => true, by rw [List.map_map]; rfl, ?_⟩
        have : (xs.map fun _ => true).all id = true := List.all_eq_true.mpr fun b hb => by
          obtain ⟨_, _, rfl⟩ := List.mem_map.mp hb
          rfl
        rw [this]
        exact q
end SC

set_option Elab.async false
set_option linter.all false
set_option maxRecDepth 100000
namespace SC
open PySem L2 VL
end SC

set_option Elab.async false
set_option linter.all false
set_option maxRecDepth 100000
namespace SC
open PySem L2 VL

end SC

set_option Elab.async false
set_option linter.all false
set_option maxRecDepth 100000
namespace SC
open PySem L2 VL
end SC

set_option Elab.async false
set_option linter.all false
set_option maxRecDepth 100000
set_option pp.maxSteps 600
namespace SC
open PySem L2 VL

def BadE (l : List It) (e : D) : Prop := (∀ xs, e ≠ .tuple xs) ∨ ∃ x y, e = .tuple [x, y] ∧ repD l x = none
inductive BadSt (l : List It) : D → Prop
  | kind {v : D} : isT (tyN v) "tuple" = false → BadSt l v
  | len {xs : List D} : xs.length ≠ 2 → BadSt l (.tuple xs)
  | pos {x y : D} : isIntD x 0 (.int ((l.length : Nat) : Int)) = false → BadSt l (.tuple [x, y])
  | lst {x y : D} : isIntD x 0 (.int ((l.length : Nat) : Int)) = true → isT (tyN y) "list" = false → BadSt l (.tuple [x, y])
  | ent {p : Nat} {a : Act} {e : D} : p ≤ l.length → Vs l p p a → BadE l e → BadSt l (.tuple [.int (p : Int), .list (aD a ++ [e])])
def TmW (v : D) (n : Int) (A B : Prop) : Prop := (isIntD v 0 (.int n) = true ∧ A) ∨ (isIntD v 0 (.int n) = false ∧ B)
theorem TmW.x {v : D} {n : Int} {A B : Prop} (h : TmW v n A B) : (isIntD v 0 (.int n) = true → A) ∧ (isIntD v 0 (.int n) = false → B) := by
  rcases h with ⟨h, a⟩ | ⟨h, b⟩
  · exact ⟨fun _ => a, fun z => absurd (h.symm.trans z) (by decide)⟩
  · exact ⟨fun z => absurd (h.symm.trans z) (by decide), fun _ => b⟩
end SC

set_option Elab.async false
set_option linter.all false
set_option maxRecDepth 100000
namespace VL
open PySem PySem.Spec L2 PyProof.Rows
def dct (xs : List Str) : Nat → Nat
  | 0 => 0
  | i + 1 => if (xs.take i).any (· == xs.getD i Str.empty) = true then dct xs i else dct xs i + 1
section
variable {prog : Program} {w : World} {A : Around} {R : Result → Shared → Prop} {I : Addr} {fp wr : List Addr} {G : Array GenState → Array GenState → Prop} {n : Nat} {P : Nat → Value → Prop} {St : Nat → Shared → Prop}
end
section
variable {P : Program} {w : World} {A : Around} {E : Value → Shared → Prop} {s : Shared}
set_option maxHeartbeats 4000000 in
end
section
variable {X : Cx} {G : Gb} {W : WX}
def oLnS : Op1 := fun d k => isL d fun l => ∃ xs : List Str, l = xs.map .str ∧ xs.length ≤ 4000 ∧ k (.sh (.int ((dct xs xs.length : Nat) : Int)))
@[simp ↓] theorem ev_lnS (xs : List Str) (k : R → Prop) : oLnS (.list (xs.map .str)) k = (xs.length ≤ 4000 ∧ k (.sh (.int ((dct xs xs.length : Nat) : Int)))) := by
  refine propext ⟨?_, fun h => ⟨xs, rfl, h⟩⟩
  rintro ⟨ys, e, h⟩
  have inj : ∀ {a b : List Str}, a.map PyData.str = b.map PyData.str → a = b := by
    intro a
    induction a with
    | nil => intro b e; cases b with
      | nil => rfl
      | cons x b => simp at e
    | cons x a ih => intro b e; cases b with
      | nil => simp at e
      | cons y b =>
        simp only [List.map_cons, List.cons.injEq, PyData.str.injEq] at e
        rw [e.1, ih e.2]
  rw [inj e]
  exact h
end
end VL

set_option Elab.async false
set_option linter.all false
set_option maxRecDepth 100000
namespace SC
open PySem L2 VL
def bN : List It → List Str
  | [] => []
  | .bar n :: r => n :: bN r
  | .mark _ :: r => bN r
  | .rep _ _ :: r => bN r
def itMark : It → Bool
  | .mark _ => true
  | _ => false
def itRep : It → Bool
  | .rep _ _ => true
  | _ => false
def adjL : List It → List Bool
  | a :: b :: r => (itMark a && itRep b) :: adjL (b :: r)
  | _ => []
def adj (l : List It) : Bool := (adjL l).any id
def smB (l : List It) : Bool := decide (dct (bN l) (bN l).length = (bN l).length) && !adj l
end SC

set_option Elab.async false
set_option linter.all false
set_option maxRecDepth 100000
namespace VL
open PySem L2
section
variable {K : Fg} {H : Hp}
end
section
variable {X : Cx} {G : Gb} {W : WX}
def wDPop (i : Nat) (wk : WE) : WE := fun Γ Q X => owW i Γ fun d _ => isD d fun _ => wk Γ (fun rk Γ1 => rdW rk Γ1 fun kd => owW i Γ1 fun d f' => isD d fun ps => isK kd (match dget ps kd with
  | some v => Q (.sh v) (f' (.dict (ddrop ps kd)))
  | none => False)) X
@[simp ↓] theorem ev_wDPop (i : Nat) (wk : WE) (Γ : Ev) (Q : R → Ev → Prop) (X : XW) : wDPop i wk Γ Q X = owW i Γ fun d _ => isD d fun _ => wk Γ (fun rk Γ1 => rdW rk Γ1 fun kd => owW i Γ1 fun d f' => isD d fun ps => isK kd (match dget ps kd with
  | some v => Q (.sh v) (f' (.dict (ddrop ps kd)))
  | none => False)) X := rfl
end
end VL

set_option Elab.async false
set_option linter.all false
set_option maxRecDepth 100000
set_option pp.maxSteps 600
namespace L2
open PySem PySem.Spec PyProof.Rows
section
variable {X : Cx} {pins : List (Addr × Obj)} {σ : St} {H : Hp} {s : Shared} {a b : Addr} {kvs more : List (Key × V)} {A : Around} {E : Value → Shared → Prop}
end
section
variable {X : Cx} {o e : Expr} {apos cpos : Pos} {td ty : TE}
end
end L2
namespace VL
open PySem L2
def dupd (ps more : List (D × D)) : List (D × D) := more.foldl (fun acc p => dput acc p.1 p.2) ps
section
variable {K : Fg} {H : Hp}
theorem RepKV.upd (more : List (Key × V)) : ∀ (md : List (D × D)) (kvs : List (Key × V)) (ps : List (D × D)), RepKV K H more md → RepKV K H kvs ps → RepKV K H (mergeK kvs more) (dupd ps md) := by
  induction more with
  | nil =>
    intro md kvs ps h r
    cases h
    exact r
  | cons p more ih =>
    intro md kvs ps h r
    cases h with
    | cons h q =>
      rename_i k v d ps'
      exact ih ps' _ (dput ps (kD k) d) q (r.put h)
end
section
variable {X : Cx} {G : Gb} {W : WX}
def wDUpd (i : Nat) (wa : WE) : WE := fun Γ Q X => owW i Γ fun d _ => isD d fun _ => wa Γ (fun ra Γ1 => frW ra Γ1 fun da Γ2 => isD da fun more => owW i Γ2 fun d f' => isD d fun ps => ps.length + more.length ≤ sizeLine ∧ Q (.sh .none) (f' (.dict (dupd ps more)))) X
def wDUpdL (i : Nat) (wa : WE) : WE := fun Γ Q X => owW i Γ fun d _ => isD d fun _ => wa Γ (fun ra Γ1 => frW ra Γ1 fun da Γ2 => isL da fun l => owW i Γ2 fun d f' => isD d fun ps => ∃ kvs : List (Key × D), l = kvs.map (fun p => .tuple [kD p.1, p.2]) ∧ ps.length + l.length ≤ sizeLine ∧ Q (.sh .none) (f' (.dict (dmerge kvs ps)))) X
@[simp ↓] theorem ev_wDUpd (i : Nat) (wa : WE) (Γ : Ev) (Q : R → Ev → Prop) (X : XW) : wDUpd i wa Γ Q X = owW i Γ fun d _ => isD d fun _ => wa Γ (fun ra Γ1 => frW ra Γ1 fun da Γ2 => isD da fun more => owW i Γ2 fun d f' => isD d fun ps => ps.length + more.length ≤ sizeLine ∧ Q (.sh .none) (f' (.dict (dupd ps more)))) X := rfl
@[simp ↓] theorem ev_wDUpdL (i : Nat) (wa : WE) (Γ : Ev) (Q : R → Ev → Prop) (X : XW) : wDUpdL i wa Γ Q X = owW i Γ fun d _ => isD d fun _ => wa Γ (fun ra Γ1 => frW ra Γ1 fun da Γ2 => isL da fun l => owW i Γ2 fun d f' => isD d fun ps => ∃ kvs : List (Key × D), l = kvs.map (fun p => .tuple [kD p.1, p.2]) ∧ ps.length + l.length ≤ sizeLine ∧ Q (.sh .none) (f' (.dict (dmerge kvs ps)))) X := rfl
end
end VL

set_option Elab.async false
set_option linter.all false
set_option maxRecDepth 100000
set_option pp.maxSteps 600
namespace SC
open PySem L2 VL
structure Ns where
  f : Str → Option Str
  p : List Str
def nsS (z : Ns) : It → Ns
  | .mark n => ⟨z.f, z.p ++ [n]⟩
  | .bar x => ⟨fun m => if m ∈ z.p then some x else z.f m, []⟩
  | .rep _ _ => z
def ns (l : List It) : Ns := l.foldl nsS ⟨fun _ => none, []⟩
def isRp (m : Str) : It → Bool
  | .rep n _ => decide (n = m)
  | _ => false
def ud (l : List It) (m : Str) : Bool := l.any (isRp m)
def apr (is : List It) (x : Str) (c : Int) : List It := match is.getLast? with
  | some (.rep n c') => if n = x then is.dropLast ++ [.rep x ((c' + 1) * (c + 1) - 1)] else is ++ [.rep x c]
  | _ => is ++ [.rep x c]
def nfS (U : Str → Bool) (z : List It × Ns) (a : It) : List It × Ns := (match a with
  | .mark _ => z.1
  | .bar x => z.1 ++ (if z.2.p.any U then [.mark x] else []) ++ [.bar x]
  | .rep n c => apr z.1 ((z.2.f n).getD "") c, nsS z.2 a)
def nfA (U : Str → Bool) (l : List It) : List It × Ns := l.foldl (nfS U) ([], ⟨fun _ => none, []⟩)
def nf (l : List It) : List It := (nfA (ud l) l).1
def iNm : It → Str
  | .bar n => n
  | .mark n => n
  | .rep n _ => n
def Nmd (l : List It) : Prop := ∀ a ∈ l, nameB (iNm a) = true
theorem Nmd.nil : Nmd [] := fun _ h => nomatch h
theorem Nmd.snoc {l : List It} {a : It} (h : Nmd l) (ha : nameB (iNm a) = true) : Nmd (l ++ [a]) := fun b hb => by
  rcases List.mem_append.mp hb with hb | hb
  · exact h b hb
  · rw [List.mem_singleton.mp hb]; exact ha
theorem apr_other {l : List It} {a : It} (x : Str) (c : Int) (h : ∀ c', a ≠ .rep x c') : apr (l ++ [a]) x c = l ++ [a] ++ [.rep x c] := by
  unfold apr
  rw [List.getLast?_append]
  cases a with
  | rep n c' =>
    have : n ≠ x := fun e => h c' (by rw [e])
    simp [this]
  | bar n => rfl
  | mark n => rfl
theorem apr_same (l : List It) (x : Str) (c' c : Int) : apr (l ++ [.rep x c']) x c = l ++ [.rep x ((c' + 1) * (c + 1) - 1)] := by
  unfold apr
  simp
theorem Nmd.apr {is : List It} {x : Str} {c : Int} (h : Nmd is) (hx : nameB x = true) : Nmd (apr is x c) := by
  rcases List.eq_nil_or_concat is with rfl | ⟨l, a, rfl⟩
  · exact Nmd.snoc (l := []) h hx
  · by_cases hc : ∃ c', a = .rep x c'
    · obtain ⟨c', rfl⟩ := hc
      rw [List.concat_eq_append, apr_same]
      exact Nmd.snoc (fun b hb => h b (by simp [hb])) hx
    · rw [List.concat_eq_append, apr_other x c fun c' e => hc ⟨c', e⟩]
      rw [List.concat_eq_append] at h
      exact h.snoc hx
def Cs (l : List It) : Prop := ∀ n c, It.rep n c ∈ l → 1 ≤ c
theorem Cs.pre {a b : List It} (h : Cs (a ++ b)) : Cs a := fun n c hm => h n c (List.mem_append_left _ hm)
theorem Cs.nil : Cs [] := fun _ _ h => nomatch h
theorem Cs.snoc {l : List It} {a : It} (h : Cs l) (ha : ∀ n c, a = .rep n c → 1 ≤ c) : Cs (l ++ [a]) := fun n c hm => by
  rcases List.mem_append.mp hm with hm | hm
  · exact h n c hm
  · exact ha n c (List.mem_singleton.mp hm).symm
theorem Cs.apr {is : List It} {x : Str} {c : Int} (h : Cs is) (hc : 1 ≤ c) : Cs (apr is x c) := by
  rcases List.eq_nil_or_concat is with rfl | ⟨l, a, rfl⟩
  · exact Cs.snoc (l := []) h fun n d e => by cases e; exact hc
  · rw [List.concat_eq_append] at *
    by_cases he : ∃ c', a = .rep x c'
    · obtain ⟨c', rfl⟩ := he
      rw [apr_same]
      refine h.pre.snoc fun n d e => ?_
      cases e
      have h1 := h x c' (by simp)
      have := Int.mul_le_mul (a := 2) (b := 2) (c := c' + 1) (d := c + 1) (by omega) (by omega) (by decide) (by omega)
      omega
    · rw [apr_other x c fun c' e => he ⟨c', e⟩]
      exact h.snoc fun n d e => by cases e; exact hc
end SC

set_option Elab.async false
set_option linter.all false
set_option maxRecDepth 100000
set_option pp.maxSteps 600
namespace SC
open PySem L2 VL
end SC

set_option Elab.async false
set_option linter.all false
set_option maxRecDepth 100000
set_option pp.maxSteps 600
namespace VL
open PySem L2
end VL
namespace SC
open PySem L2 VL
end SC

set_option Elab.async false
set_option linter.all false
set_option maxRecDepth 100000
set_option pp.maxSteps 600
namespace VL
open PySem L2
section
variable {X : Cx} {G : Gb} {W : WX}
def wM1 (o : Op2) (wo we : WE) : WE := fun Γ Q X => wo Γ (fun ra Γ1 => rdW ra Γ1 fun a => isS a fun _ => we Γ1 (fun rb Γ2 => rdW ra Γ2 fun a => rdW rb Γ2 fun b => o a b fun r => Q r Γ2) X) X
theorem sim_m1 {r : V → List V → Hp → VK → Prop} {o : Op2} {to te : TE} {wo we : WE} (h : Sem2 G (fun x y H Q => r x [y] H Q) o) (ho : SimE G W to wo) (he : SimE G W te we) : SimE G W (tM1 r to te) (wM1 o wo we) := by
  intro C Hi σ H Γ Q Qd Xd c hw hQ hX
  refine ho C Hi σ H Γ _ _ Xd c hw (fun v1 r1 H1 Hi1 Γ1 e1 o1 q1 => ?_) hX
  obtain ⟨Hi2, e2, c2, h2⟩ := o1.hold
  obtain ⟨d0, b0, q0⟩ := h2.read c2 q1
  obtain ⟨z, rfl, q0⟩ := isS_inv q0
  refine ⟨⟨z, b0.str⟩, he C Hi2 σ H1 Γ1 _ _ Xd c2 q0 (fun v3 r3 H3 Hi3 Γ3 e3 o3 q3 => ?_) fun x c d H' Hi' Γ' e' => hX x c d H' Hi' Γ' ((e1.trans e2).trans e')⟩
  obtain ⟨Hi4, e4, c4, h4⟩ := o3.hold
  obtain ⟨d1, b1, q4⟩ := (h2.mono (e3.trans e4)).read c4 q3
  obtain ⟨d2, b2, q5⟩ := h4.read c4 q4
  exact h c4 b1 b2 q5 fun v r H' Hi' e o q => hQ v r H' Hi' Γ3 ((((e1.trans e2).trans e3).trans e4).trans e) o q
def rSplit1 : V → List V → Hp → VK → Prop := fun x xs H Q => ∃ a b, x = .str a ∧ xs = [.str b] ∧ (b.length == 0) = false ∧ a.length + 2 ≤ sizeLine ∧ rNewStrs (Txt.split a b) H Q
def rPart1 : V → List V → Hp → VK → Prop := fun x xs H Q => ∃ a b, x = .str a ∧ xs = [.str b] ∧ (b.length == 0) = false ∧ a.length ≤ sizeLine ∧
      ∀ p, H p = none → Q (.ref p) (upd H p (.tup [.str (Txt.partition a b).1, .str (Txt.partition a b).2.1, .str (Txt.partition a b).2.2]))
def rJoin1 (K : Fg) : V → List V → Hp → VK → Prop := fun x xs H Q => ∃ a p, ∃ ys : List Str, x = .str a ∧ xs = [.ref p] ∧ (SqL K H p (ys.map V.str) ∨ SqT K H p (ys.map V.str)) ∧
      (ys.map (·.length)).sum + ys.length * a.length ≤ 16777216 ∧ Q (.str (Txt.join a ys)) H
def rEnds1 : V → List V → Hp → VK → Prop := fun x xs H Q => ∃ a b, x = .str a ∧ xs = [.str b] ∧ Q (.bl (Txt.endswith a b)) H
def oSplit : Op2 := fun a b k => isS a fun x => isS b fun y => (y.length == 0) = false ∧ x.length + 2 ≤ sizeLine ∧ k (.ow (.list ((Txt.split x y).map .str)))
def oPart : Op2 := fun a b k => isS a fun x => isS b fun y => (y.length == 0) = false ∧ x.length ≤ sizeLine ∧ k (.sh (.tuple [.str (Txt.partition x y).1, .str (Txt.partition x y).2.1, .str (Txt.partition x y).2.2]))
def oJoin : Op2 := fun a b k => isS a fun x => isL b fun l => ∃ ys : List Str, l = ys.map .str ∧ (ys.map (·.length)).sum + ys.length * x.length ≤ 16777216 ∧ k (.sh (.str (Txt.join x ys)))
def oEnds : Op2 := fun a b k => isS a fun x => isS b fun y => k (.sh (.bool (Txt.endswith x y)))
theorem reps_of_strs {K : Fg} {H : Hp} : ∀ ys : List Str, Reps K H (ys.map V.str) (ys.map .str)
  | [] => .nil
  | y :: ys => .cons (.str y) (reps_of_strs ys)
theorem strs_of_reps {K : Fg} {H : Hp} : ∀ {ys : List Str} {xs : List V}, Reps K H xs (ys.map .str) → xs = ys.map V.str
  | [], _, .nil => rfl
  | y :: ys, _, .cons h r => by cases h; rw [strs_of_reps r]; rfl
theorem sem_split : Sem2 G (fun x y H Q => rSplit1 x [y] H Q) oSplit := by
  intro C Hi σ H Γ x y a b k Q c ha hb h q
  obtain ⟨u, rfl, g⟩ := isS_inv h
  obtain ⟨v, rfl, h0, h1, h⟩ := isS_inv g
  refine ⟨u, v, ha.str, by rw [hb.str], h0, h1, fun p hp => ?_⟩
  exact q _ _ _ Hi (Ext.refl _) (Out.newL c hp (reps_of_strs _)) h
theorem sem_part : Sem2 G (fun x y H Q => rPart1 x [y] H Q) oPart := by
  intro C Hi σ H Γ x y a b k Q c ha hb h q
  obtain ⟨u, rfl, g⟩ := isS_inv h
  obtain ⟨v, rfl, h0, h1, h⟩ := isS_inv g
  refine ⟨u, v, ha.str, by rw [hb.str], h0, h1, fun p hp => ?_⟩
  obtain ⟨e3, o3⟩ := Out.newT (ds := [.str (Txt.partition u v).1, .str (Txt.partition u v).2.1, .str (Txt.partition u v).2.2]) c hp (.cons (.str _) (.cons (.str _) (.cons (.str _) .nil)))
  exact q _ _ _ _ e3 o3 h
theorem sem_join : Sem2 G (fun x y H Q => rJoin1 G.K x [y] H Q) oJoin := by
  intro C Hi σ H Γ x y a b k Q c ha hb h q
  obtain ⟨u, rfl, g⟩ := isS_inv h
  obtain ⟨l, rfl, ys, rfl, h1, h⟩ := isL_inv g
  obtain ⟨p, xs, rfl, s1, r1⟩ := hb.list c.imm
  have e := strs_of_reps r1
  subst e
  exact ⟨u, p, ys, ha.str, rfl, .inl (SqL.of s1), h1, q _ _ _ Hi (Ext.refl _) (out_str c _) h⟩
theorem sem_ends : Sem2 G (fun x y H Q => rEnds1 x [y] H Q) oEnds := by
  intro C Hi σ H Γ x y a b k Q c ha hb h q
  obtain ⟨u, rfl, g⟩ := isS_inv h
  obtain ⟨v, rfl, h⟩ := isS_inv g
  exact ⟨u, v, ha.str, by rw [hb.str], q _ _ _ Hi (Ext.refl _) (out_bl c _) h⟩
end
section
variable {X : Cx} {G : Gb} {W : WX} {o e : Expr} {to te : TE} {wo we : WE} {apos pos : Pos}
theorem de_split (ho : DE X G W o to wo) (he : DE X G W e te we) (hs : starEach [e] X.env = [(false, eval e X.env)] := by rfl) (hbase : attributeBase o "split" X.env (eval o X.env) = eval o X.env := by rfl) (hline : (apos.endLine == pos.line) = true := by rfl) :
    DE X G W (.Call (.Attribute o "split" apos) [e] [] pos) (tM1 rSplit1 to te) (wM1 oSplit wo we) := ⟨pe_split ho.pe he.pe hs hbase hline, sim_m1 sem_split ho.sim he.sim⟩
theorem de_part (ho : DE X G W o to wo) (he : DE X G W e te we) (hs : starEach [e] X.env = [(false, eval e X.env)] := by rfl) (hbase : attributeBase o "partition" X.env (eval o X.env) = eval o X.env := by rfl) (hline : (apos.endLine == pos.line) = true := by rfl) :
    DE X G W (.Call (.Attribute o "partition" apos) [e] [] pos) (tM1 rPart1 to te) (wM1 oPart wo we) := ⟨pe_partition ho.pe he.pe hs hbase hline, sim_m1 sem_part ho.sim he.sim⟩
theorem de_join (hK : X.K = G.K) (ho : DE X G W o to wo) (he : DE X G W e te we) (hs : starEach [e] X.env = [(false, eval e X.env)] := by rfl) (hbase : attributeBase o "join" X.env (eval o X.env) = eval o X.env := by rfl) (hline : (apos.endLine == pos.line) = true := by rfl) :
    DE X G W (.Call (.Attribute o "join" apos) [e] [] pos) (tM1 (rJoin1 X.K) to te) (wM1 oJoin wo we) := ⟨pe_join ho.pe he.pe hs hbase hline, sim_m1 (by rw [hK]; exact sem_join) ho.sim he.sim⟩
theorem de_ends (ho : DE X G W o to wo) (he : DE X G W e te we) (hs : starEach [e] X.env = [(false, eval e X.env)] := by rfl) (hbase : attributeBase o "endswith" X.env (eval o X.env) = eval o X.env := by rfl) (hline : (apos.endLine == pos.line) = true := by rfl) :
    DE X G W (.Call (.Attribute o "endswith" apos) [e] [] pos) (tM1 rEnds1 to te) (wM1 oEnds wo we) := ⟨pe_m1 PySem.F.slot_str_endswith PySem.F.type_str_endswith mt_endswith ho.pe he.pe hs hbase hline, sim_m1 sem_ends ho.sim he.sim⟩
def wFmt (w : WE) : WE := fun Γ Q X => w Γ (fun r Γ1 => rdW r Γ1 fun d => match d with
  | .str y => y.length ≤ sizeLine ∧ Q (.sh (.str y)) Γ1
  | .int i => i.natAbs.log2 < 1920 ∧ Q (.sh (.str (toString i))) Γ1
  | _ => False) X
def wJs : List WE → Str → Ev → (Str → Ev → Prop) → XW → Prop
  | [], acc, Γ, Q, _ => Q acc Γ
  | w :: ws, acc, Γ, Q, X => w Γ (fun r Γ1 => rdW r Γ1 fun d => isS d fun y => (acc ++ y).length ≤ sizeLine ∧ wJs ws (acc ++ y) Γ1 Q X) X
inductive DJ (X : Cx) (G : Gb) (W : WX) : List Expr → List TE → List WE → Prop where
  | nil : DJ X G W [] [] []
  | cons {e : Expr} {t : TE} {w : WE} {es : List Expr} {ts : List TE} {ws : List WE} (h : DE X G W e t w) (r : DJ X G W es ts ws) : DJ X G W (e :: es) (t :: ts) (w :: ws)
def wFs (ws : List WE) : WE := fun Γ Q X => wJs ws Str.empty Γ (fun y Γ1 => Q (.sh (.str y)) Γ1) X
@[simp ↓] theorem ev_wM1 (o : Op2) (wo we : WE) (Γ : Ev) (Q : R → Ev → Prop) (X : XW) : wM1 o wo we Γ Q X = wo Γ (fun ra Γ1 => rdW ra Γ1 fun a => isS a fun _ => we Γ1 (fun rb Γ2 => rdW ra Γ2 fun a => rdW rb Γ2 fun b => o a b fun r => Q r Γ2) X) X := rfl
@[simp ↓] theorem ev_wFmt (w : WE) (Γ : Ev) (Q : R → Ev → Prop) (X : XW) : wFmt w Γ Q X = w Γ (fun r Γ1 => rdW r Γ1 fun d => match d with
  | .str y => y.length ≤ sizeLine ∧ Q (.sh (.str y)) Γ1
  | .int i => i.natAbs.log2 < 1920 ∧ Q (.sh (.str (toString i))) Γ1
  | _ => False) X := rfl
@[simp ↓] theorem ev_wFs (ws : List WE) (Γ : Ev) (Q : R → Ev → Prop) (X : XW) : wFs ws Γ Q X = wJs ws Str.empty Γ (fun y Γ1 => Q (.sh (.str y)) Γ1) X := rfl
@[simp ↓] theorem ev_wJs0 (acc : Str) (Γ : Ev) (Q : Str → Ev → Prop) (X : XW) : wJs [] acc Γ Q X = Q acc Γ := rfl
@[simp ↓] theorem ev_wJs1 (w : WE) (ws : List WE) (acc : Str) (Γ : Ev) (Q : Str → Ev → Prop) (X : XW) : wJs (w :: ws) acc Γ Q X = w Γ (fun r Γ1 => rdW r Γ1 fun d => isS d fun y => (acc ++ y).length ≤ sizeLine ∧ wJs ws (acc ++ y) Γ1 Q X) X := rfl
end
end VL

set_option Elab.async false
set_option linter.all false
set_option maxRecDepth 100000
set_option pp.maxSteps 600
namespace VL
open PySem L2
def rNeD0 : R2 := fun x y H Q => ∃ a b ks, x = .ref a ∧ y = .ref b ∧ Rd H a (.dK ks) ∧ Rd H b (.dK []) ∧ Q (.bl (!ks.isEmpty)) H
theorem op_ne_dict0 {X : Cx} (hu : X.A.units < cLine) : OpR X (compareOp .NotEq) rNeD0 := by
  intro pins s σ H x y v u Q I rx ry h
  obtain ⟨a, b, ks, rfl, rfl, ea, eb, q⟩ := h
  obtain rfl : v = Value.ref a := rx
  obtain rfl : u = Value.ref b := ry
  obtain ⟨_, ya, va, ra, da⟩ := dk_rd I.hok ea
  obtain ⟨_, yb, vb, rb, db⟩ := dk_rd I.hok eb
  have hb0 : vb.length = 0 := by rw [← rb.length]; rfl
  have ha0 := ra.length
  refine PySem.W.keq_ne (knd := mixKind X.prog X.w) (r := true) ya yb da db hu (fun hl => ?_) (fin_bl I q ?_)
  · have : ks = [] := List.length_eq_zero_iff.mp (by omega)
    subst this
    exact hits_all rb ra (fun p hp => nomatch hp)
  · rw [hb0, ← ha0]
    cases ks <;> simp
def oNeD0 : Op2 := fun a b k => isD a fun ps => isD b fun qs => qs = [] ∧ k (.sh (.bool (!ps.isEmpty)))
def oEqD0 : Op2 := fun a b k => isD a fun ps => isD b fun qs => qs = [] ∧ k (.sh (.bool ps.isEmpty))
def oListD : Op1 := fun d k => isD d fun ps => k (.ow (.list (ps.map (·.1))))
section
variable {G : Gb}
theorem RepKV.empty0 {K : Fg} {H : Hp} {ks : List (Key × V)} {ps : List (D × D)} (r : RepKV K H ks ps) : ks.isEmpty = ps.isEmpty := by cases r <;> rfl
theorem RepKV.keys0 {K : Fg} {H : Hp} : ∀ {ks : List (Key × V)} {ps : List (D × D)}, RepKV K H ks ps → Reps K H (ks.map fun kv => kV kv.1) (ps.map (·.1))
  | _, _, .nil => .nil
  | (k, _) :: _, _, .cons h r => by
    refine .cons ?_ (RepKV.keys0 r)
    cases k with
    | inl i => exact .int i
    | inr x => exact .str x
theorem sem_neD0 : Sem2 G rNeD0 oNeD0 := by
  intro C Hi σ H Γ x y a b k Q c ha hb h q
  obtain ⟨ps, rfl, g⟩ := isD_inv h
  obtain ⟨qs, rfl, rfl, g2⟩ := isD_inv g
  obtain ⟨p, ks, rfl, s1, r1⟩ := ha.dict c.imm
  obtain ⟨p2, ks2, rfl, s2, r2⟩ := hb.dict c.imm
  cases r2
  exact ⟨p, p2, ks, rfl, rfl, s1, s2, by rw [r1.empty0]; exact q _ _ _ Hi (Ext.refl _) (out_bl c _) g2⟩
def rListD1 : List V → Hp → VK → Prop := fun xs H Q => ∃ (a : Addr) (kvs : List (Key × V)), xs = [.ref a] ∧ Rd H a (.dK kvs) ∧ ∀ p, H p = none → Q (.ref p) (upd H p (.lst (kvs.map fun kv => kV kv.1)))
theorem sem_listD : SemN G rListD1 (o1 oListD) := by
  refine semN_1 ?_
  intro C Hi σ H Γ x a k Q c ha h q
  obtain ⟨ps, rfl, g⟩ := isD_inv h
  obtain ⟨p, ks, rfl, s1, r1⟩ := ha.dict c.imm
  exact ⟨p, ks, rfl, s1, fun l hl => q _ _ _ Hi (Ext.refl _) (Out.newL c hl r1.keys0) g⟩
end
section
variable {X : Cx} {G : Gb}
theorem c_neD0 (hu : X.A.units + 65 < cLine) : C2 X G .NotEq rNeD0 oNeD0 := ⟨op_ne_dict0 (by omega), sem_neD0⟩
theorem t_listD (hc : X.calm = true) : T1 X G "list" rListD1 (o1 oListD) := ⟨call_listD hc, sem_listD⟩
end
@[simp ↓] theorem ev_oNeD0 (ps : List (D × D)) (k : R → Prop) : oNeD0 (.dict ps) (.dict []) k = k (.sh (.bool (!ps.isEmpty))) := by simp [oNeD0, isD]
@[simp ↓] theorem ev_oEqD0 (ps : List (D × D)) (k : R → Prop) : oEqD0 (.dict ps) (.dict []) k = k (.sh (.bool ps.isEmpty)) := by simp [oEqD0, isD]
@[simp ↓] theorem ev_oListD (ps : List (D × D)) (k : R → Prop) : oListD (.dict ps) k = k (.ow (.list (ps.map (·.1)))) := rfl
end VL

set_option Elab.async false
set_option linter.all false
set_option maxRecDepth 100000
set_option pp.maxSteps 600
namespace L2
open PySem PySem.Spec PyProof.Rows
def CMulS (_ j : Int) : Prop := Builtin.Int.intBits j ≤ 64
theorem op_mulS {X : Cx} : OpR X (binaryOp .Mult) (rI CMulS fun i j => .int (i * j)) := opI fun _ _ _ _ _ _ _ hc q => mul_int q (IntMulOk.of_right hc)
end L2
namespace VL
open PySem L2
section
variable {X : Cx} {G : Gb} {W : WX} {a b : Expr} {ta tb : TE} {wa wb : WE} {pos : Pos}
theorem sem_mulS : Sem2 G (rI CMulS fun i j => .int (i * j)) (oII CMulS (· * ·)) := sem_II (fun _ _ h => h) fun _ _ _ => rfl
theorem de_mulS (ha : DE X G W a ta wa) (hb : DE X G W b tb wb) : DE X G W (.BinOp a .Mult b pos) (tOp (rI CMulS fun i j => .int (i * j)) ta tb) (wOp (oII CMulS (· * ·)) wa wb) := de_op op_mulS sem_mulS ha hb
end
end VL

set_option Elab.async false
set_option linter.all false
set_option maxRecDepth 100000
set_option pp.maxSteps 600
namespace SC
open PySem L2 VL
def fs_law_drawS : FS := fun io ds Q _ => ∃ (n : Nat) (d : D) (m : Int), io = some (.io d) ∧ StrOk n d ∧ n ≤ 1000000 ∧ ds = [.int m] ∧ 0 < m ∧ m.natAbs < 2 ^ 9000 ∧ ∀ r d', 0 ≤ r → r < m → StrOk (n + 1) d' → Q (.sh (.int r)) (some (.io d'))
def w_law_drawS : WS := wSeq (wIfS (wT (wOp (oIB fun i j => decide (j < i)) (wOp oIx (wVar 0) (wC (.int 0))) (wC (.int 0)))) (wSeq (wSet 2 (wOp (oII (fun _ j => 0 < j) (· % ·)) (wOp oIx (wVar 0) (wC (.int 0))) (wVar 1))) (wSeq (wLPut 0 (wC (.int 0)) (wOp (oII CDivW (· / ·)) (wOp oIx (wVar 0) (wC (.int 0))) (wVar 1))) (wRet (wVar 2)))) (wNext)) (wSeq (wLPut 0 (wC (.int 2)) (wOp oAdd (wOp oIx (wVar 0) (wC (.int 2))) (wC (.int 1)))) (wSeq (wSet 3 (wOp (oII (fun _ j => 0 < j) (· % ·)) (wOp (oII CPowW fun i j => i ^ j.toNat) (wOp oAdd (wOp oIx (wVar 0) (wC (.int 1))) (wOp oMul (wC (.int 68718952447)) (wOp oIx (wVar 0) (wC (.int 2))))) (wC (.int 2))) (wOp oAdd (wOp (oII CPowW fun i j => i ^ j.toNat) (wC (.int 10)) (wC (.int 39))) (wC (.int 3))))) (wSeq (wSet 3 (wOp (oII (fun _ j => 0 < j) (· % ·)) (wOp (oII CPowW fun i j => i ^ j.toNat) (wOp oAdd (wOp oMul (wVar 3) (wC (.int 13))) (wOp oMul (wC (.int 101)) (wOp oIx (wVar 0) (wC (.int 2))))) (wC (.int 3))) (wOp oAdd (wOp (oII CPowW fun i j => i ^ j.toNat) (wC (.int 10)) (wC (.int 42))) (wC (.int 63))))) (wRet (wOp (oII (fun _ j => 0 < j) (· % ·)) (wOp (oII CDivW (· / ·)) (wVar 3) (wOp (oII CPowW fun i j => i ^ j.toNat) (wC (.int 10)) (wC (.int 5)))) (wVar 1))))))
theorem pow_okN {x : Int} {b k : Nat} (h0 : 0 < b) (hb : b ≤ 1000000) (hk : k ≤ 100) (h : x.natAbs < 2 ^ b) : CPowW x (k : Int) := by
  refine ⟨by omega, ?_⟩
  have h1 := bits_le x
  have h2 := PySem.Flt.log2_lt_of h0 h
  have : (2 : Int) ^ 27 = 134217728 := by decide
  rw [this]
  have h3 : Builtin.Int.intBits x ≤ 1000001 := by omega
  have h4 := Nat.mul_le_mul h3 hk
  have h5 : ((Builtin.Int.intBits x * k : Nat) : Int) ≤ ((1000001 * 100 : Nat) : Int) := Int.ofNat_le.mpr h4
  rw [Int.natCast_mul] at h5
  omega
theorem fv_law_drawS : FnV fs_law_drawS 4 w_law_drawS := by
  rintro io ds Q X ⟨n, d, m, rfl, ⟨a, b, c, rfl, ha, hb, hb2, hc, hcn⟩, hn, rfl, hm, hm2, q⟩
  show w_law_drawS [.io (.list [.int a, .int b, .int c]), .sh (.int m), .no, .no] _ _
  by_cases h : 0 < a
  · have hd : CDivW a m := wide_div (b := 9000) hm hm2 (by decide) (by decide)
    simp [w_law_drawS, h, hm, hd, ix3_0]
    exact q _ _ (Int.emod_nonneg a (by omega)) (Int.emod_lt_of_pos a hm) ⟨a / m, b, c, rfl, Int.ediv_nonneg ha (by omega), hb, hb2, hc, by omega⟩
  · have m1 : CMulW 68718952447 (c + 1) := wide_mul (a := 64) (b := 64) (by decide) (by omega) (by decide) (by decide) (by decide)
    have p1 : CPowW (b + 68718952447 * (c + 1)) 2 := pow_okN (k := 2) (b := 300) (by decide) (by decide) (by decide) (by omega)
    have t1 : CPowW 10 39 := pow10 39 (by decide) (by decide)
    have t2 : CPowW 10 42 := pow10 42 (by decide) (by decide)
    have t3 : CPowW 10 5 := pow10 5 (by decide) (by decide)
    have g1 := Int.emod_nonneg ((b + 68718952447 * (c + 1)) ^ 2) (b := 1000000000000000000000000000000000000003) (by decide)
    have g2 := Int.emod_lt_of_pos ((b + 68718952447 * (c + 1)) ^ 2) (b := 1000000000000000000000000000000000000003) (by decide)
    have m3 : CMulW 101 (c + 1) := mul_ok (b := 64) (by decide) (by omega) (by decide) (by decide)
    simp [w_law_drawS, h, hm, ix3_0, ix3_2, m1, p1, t1, t2, t3, m3]
    generalize (b + 68718952447 * (c + 1)) ^ 2 % 1000000000000000000000000000000000000003 = x at *
    have hx : x.natAbs < 2 ^ 130 := by omega
    refine ⟨wide_mul (a := 130) (b := 64) hx (by decide) (by decide) (by decide) (by decide), pow_ok (b := 300) (by decide) (by decide) (by omega), div_ok (by decide) (by decide), ?_⟩
    exact q _ _ (Int.emod_nonneg _ (by omega)) (Int.emod_lt_of_pos _ hm) ⟨a, b, c + 1, rfl, ha, hb, hb2, by omega, by omega⟩
def fs_law_sourceS : FS := fun io ds Q _ => ∃ (ns : List Int) (k : Nat), io = some (.op 0 (.list (ns.map .int))) ∧ ns.length ≤ 63 ∧ ds = [.int (k : Int)] ∧ k ≤ 100 ∧ ∀ d, StrOk 0 d → Q (.ow d) (some (.op 0 (.list (ns.map .int))))
def w_law_sourceS : WS := wSeq (wSet 2 (wIf (wT (wOp (oIB fun i j => decide (i < j)) (wVar 1) (wLenS 0))) (wIxS 0 (wVar 1)) (wC (.int 0)))) (wRet (wLst (wCons (wCB (o2 oMax) (wCons (wC (.int 0)) (wCons (wOp (oII (fun _ _ => True) (· - ·)) (wCB (o1 oAbs) (wCons (wVar 2) (wNil))) (wOp (oII CPowW fun i j => i ^ j.toNat) (wC (.int 10)) (wC (.int 18)))) (wNil)))) (wCons (wOp (oII (fun _ j => 0 < j) (· % ·)) (wOp oAdd (wOp oAdd (wOp (oII CMulS (· * ·)) (wVar 2) (wC (.int 96))) (wOp oMul (wC (.int 37)) (wVar 1))) (wC (.int 11))) (wOp oAdd (wOp (oII CPowW fun i j => i ^ j.toNat) (wC (.int 10)) (wC (.int 37))) (wC (.int 43)))) (wCons (wC (.int 0)) (wNil))))))
theorem src_lst {wa wb : VL.WE} {Γ : VL.Ev} {y z : Int} {X : VL.XW} {Dn : VL.WD} (ha : ∀ Q : VL.R → VL.Ev → Prop, Q (.sh (.int y)) Γ → wa Γ Q X) (hb : ∀ Q : VL.R → VL.Ev → Prop, Q (.sh (.int z)) Γ → wb Γ Q X) (q : Dn.rt (.ow (.list [.int y, .int z, .int 0])) Γ) :
    wRet (wLst (wCons wa (wCons wb (wCons (wC (.int 0)) (wNil))))) Γ Dn X := by
  simp
  refine ha _ ?_
  refine hb _ ?_
  simp
  exact q
theorem bits96 : Builtin.Int.intBits 96 ≤ 64 := by decide +kernel
theorem src_a {cell k : Int} {o0 : VL.Sl} {X : VL.XW} (Q : VL.R → VL.Ev → Prop) (q : Q (.sh (.int (if 0 < (if cell < 0 then -cell else cell) - 1000000000000000000 then (if cell < 0 then -cell else cell) - 1000000000000000000 else 0))) [o0, .sh (.int k), .sh (.int cell)]) :
    (wCB (o2 oMax) (wCons (wC (.int 0)) (wCons (wOp (oII (fun _ _ => True) (· - ·)) (wCB (o1 oAbs) (wCons (wVar 2) (wNil))) (wOp (oII CPowW fun i j => i ^ j.toNat) (wC (.int 10)) (wC (.int 18)))) (wNil)))) [o0, .sh (.int k), .sh (.int cell)] Q X := by
  have t1 : CPowW 10 18 := pow10 18 (by decide) (by decide)
  simp [t1, oAbs]
  simpa using q
theorem src_b {cell k : Int} {o0 : VL.Sl} {X : VL.XW} (k0 : 0 ≤ k) (k1 : k ≤ 100) (Q : VL.R → VL.Ev → Prop) (q : Q (.sh (.int ((cell * 96 + 37 * k + 11) % 10000000000000000000000000000000000043))) [o0, .sh (.int k), .sh (.int cell)]) :
    (wOp (oII (fun _ j => 0 < j) (· % ·)) (wOp oAdd (wOp oAdd (wOp (oII CMulS (· * ·)) (wVar 2) (wC (.int 96))) (wOp oMul (wC (.int 37)) (wVar 1))) (wC (.int 11))) (wOp oAdd (wOp (oII CPowW fun i j => i ^ j.toNat) (wC (.int 10)) (wC (.int 37))) (wC (.int 43)))) [o0, .sh (.int k), .sh (.int cell)] Q X := by
  have t2 : CPowW 10 37 := pow10 37 (by decide) (by decide)
  have m1 : CMulW 37 k := wide_mul (a := 64) (b := 64) (by decide) (by omega) (by decide) (by decide) (by decide)
  have m2 : CMulS cell 96 := bits96
  simp [t2, m1, m2]
  exact q
theorem src_go {cell k : Int} {o0 : VL.Sl} {X : VL.XW} {Dn : VL.WD} (k0 : 0 ≤ k) (k1 : k ≤ 100) (q : ∀ d, StrOk 0 d → Dn.rt (.ow d) [o0, .sh (.int k), .sh (.int cell)]) :
    wRet (wLst (wCons (wCB (o2 oMax) (wCons (wC (.int 0)) (wCons (wOp (oII (fun _ _ => True) (· - ·)) (wCB (o1 oAbs) (wCons (wVar 2) (wNil))) (wOp (oII CPowW fun i j => i ^ j.toNat) (wC (.int 10)) (wC (.int 18)))) (wNil)))) (wCons (wOp (oII (fun _ j => 0 < j) (· % ·)) (wOp oAdd (wOp oAdd (wOp (oII CMulS (· * ·)) (wVar 2) (wC (.int 96))) (wOp oMul (wC (.int 37)) (wVar 1))) (wC (.int 11))) (wOp oAdd (wOp (oII CPowW fun i j => i ^ j.toNat) (wC (.int 10)) (wC (.int 37))) (wC (.int 43)))) (wCons (wC (.int 0)) (wNil))))) [o0, .sh (.int k), .sh (.int cell)] Dn X := by
  refine src_lst (fun Q h => src_a Q h) (fun Q h => src_b k0 k1 Q h) (q _ ?_)
  have g1 := Int.emod_nonneg (cell * 96 + 37 * k + 11) (b := 10000000000000000000000000000000000043) (by decide)
  have g2 := Int.emod_lt_of_pos (cell * 96 + 37 * k + 11) (b := 10000000000000000000000000000000000043) (by decide)
  generalize (cell * 96 + 37 * k + 11) % 10000000000000000000000000000000000043 = z at *
  refine ⟨_, z, 0, rfl, ?_, g1, by omega, by omega, by omega⟩
  split <;> omega
theorem fv_law_sourceS : FnV fs_law_sourceS 3 w_law_sourceS := by
  rintro io ds Q X ⟨ns, k, rfl, hn, rfl, hk, q⟩
  show w_law_sourceS [.op 0 (.list (ns.map .int)), .sh (.int (k : Int)), .no] _ _
  unfold w_law_sourceS
  rw [ev_wSeq]
  simp only [ev_wSet]
  simp [-ev_wRet, -ev_wLst]
  by_cases h : k < ns.length
  · have e : atI (ns.map PyData.int) (k : Int) = some (.int ns[k]) := by
      simp [atI, ixN, h]
    rw [if_pos h]
    simp only [e]
    refine src_go (k := (k : Int)) (by omega) (by omega) fun d hd => ?_
    simp
    exact q d hd
  · rw [if_neg h]
    refine src_go (k := (k : Int)) (by omega) (by omega) fun d hd => ?_
    simp
    exact q d hd
theorem drwS {n : Nat} {d : D} {m : Int} {Q : VL.R → Option VL.Sl → Prop} {X : VL.Exn → Option VL.Sl → Prop} (hs : StrOk n d) (hn : n ≤ 1000000) (h0 : 0 < m) (h1 : m < 2 ^ 64) (q : ∀ r d', 0 ≤ r → r < m → StrOk (n + 1) d' → Q (.sh (.int r)) (some (.io d'))) :
    fs_law_drawS (some (.io d)) [.int m] Q X := ⟨n, d, m, rfl, hs, hn, rfl, h0, Nat.lt_of_lt_of_le (by omega : m.natAbs < 2 ^ 64) (Nat.pow_le_pow_right (by decide) (by decide)), q⟩
def wordL : List Str := ["do", "re", "mi", "fa", "a", "ab", "abcdefgh", "b", "zz", "none", "z", "bar", "ok", "mark"]
theorem word_ok : ∀ x ∈ wordL, nameB x = true := by decide +kernel
def recD (ws : List (Str × Int)) : List (D × D) := ws.map fun p => (.str p.1, .int p.2)
structure RcI (l : List It) (ws : List (Str × Int)) (st : Int) (i : Nat) : Prop where
  h : ok [] l
  ln : l.length = i
  wm : ∀ x, x ∈ mk [] l ↔ x ∈ ws.map (·.1)
  wl : ws.length ≤ i
  wo : ∀ p ∈ ws, p.1 ∈ wordL ∧ 0 ≤ p.2 ∧ p.2 ≤ st
  s0 : 0 ≤ st
  s1 : st + 1 ≤ ((2 ^ (32 * i) : Nat) : Int)
  mN : ∀ x, It.mark x ∈ l → x ∈ wordL
  bN : ∀ x, It.bar x ∈ l → x ∈ wordL
  cN : ∀ x c, It.rep x c ∈ l → c ≤ 999999999
theorem RcI.start : RcI [] [] 0 0 := ⟨trivial, rfl, fun x => by simp [SC.mk], Nat.le_refl _, fun p hp => by simp at hp, Int.le_refl _, by decide, fun _ h => by simp at h, fun _ h => by simp at h, fun _ _ h => by simp at h⟩
theorem two32 (i : Nat) : ((2 ^ (32 * (i + 1)) : Nat) : Int) = 4294967296 * ((2 ^ (32 * i) : Nat) : Int) := by
  rw [show 32 * (i + 1) = 32 + 32 * i by omega, Nat.pow_add, Int.natCast_mul]
  rfl
theorem RcI.bar {l : List It} {ws : List (Str × Int)} {st : Int} {i : Nat} (I : RcI l ws st i) {x : Str} (hx : x ∈ wordL) : RcI (l ++ [.bar x]) ws (st + 1) (i + 1) := by
  have p1 : (1 : Int) ≤ ((2 ^ (32 * i) : Nat) : Int) := by have := I.s0; have := I.s1; omega
  refine ⟨(ok_app _ _ _).mpr ⟨I.h, word_ok x hx, trivial⟩, by rw [List.length_append, I.ln]; rfl, fun y => by rw [mk_app]; exact I.wm y, by have := I.wl; omega, fun p hp => ?_, by have := I.s0; omega, by rw [two32]; have := I.s1; omega, fun y hy => ?_, fun y hy => ?_, fun y c hy => ?_⟩
  · obtain ⟨a, b, c⟩ := I.wo p hp
    exact ⟨a, b, by omega⟩
  · rcases List.mem_append.mp hy with z | z
    · exact I.mN y z
    · simp at z
  · rcases List.mem_append.mp hy with z | z
    · exact I.bN y z
    · have : y = x := by simpa using z
      rw [this]; exact hx
  · rcases List.mem_append.mp hy with z | z
    · exact I.cN y c z
    · simp at z
theorem RcI.mark {l : List It} {ws : List (Str × Int)} {st : Int} {i : Nat} (I : RcI l ws st i) {x : Str} (hx : x ∈ wordL) (hn : x ∉ ws.map (·.1)) : RcI (l ++ [.mark x]) (ws ++ [(x, st + 1)]) (st + 1) (i + 1) := by
  have p1 : (1 : Int) ≤ ((2 ^ (32 * i) : Nat) : Int) := by have := I.s0; have := I.s1; omega
  refine ⟨(ok_app _ _ _).mpr ⟨I.h, word_ok x hx, fun z => hn ((I.wm x).mp z), trivial⟩, by rw [List.length_append, I.ln]; rfl, fun y => ?_, by have := I.wl; simp; omega, fun p hp => ?_, by have := I.s0; omega, by rw [two32]; have := I.s1; omega, fun y hy => ?_, fun y hy => ?_, fun y c hy => ?_⟩
  · rw [mk_app]
    show y ∈ x :: SC.mk [] l ↔ _
    rw [List.mem_cons, I.wm y, List.map_append, List.mem_append]
    simp [or_comm]
  · rcases List.mem_append.mp hp with z | z
    · obtain ⟨a, b, c⟩ := I.wo p z
      exact ⟨a, b, by omega⟩
    · have : p = (x, st + 1) := by simpa using z
      subst this
      exact ⟨hx, by have := I.s0; show 0 ≤ st + 1; omega, Int.le_refl _⟩
  · rcases List.mem_append.mp hy with z | z
    · exact I.mN y z
    · have : y = x := by simpa using z
      rw [this]; exact hx
  · rcases List.mem_append.mp hy with z | z
    · exact I.bN y z
    · simp at z
  · rcases List.mem_append.mp hy with z | z
    · exact I.cN y c z
    · simp at z
theorem RcI.rep {l : List It} {ws : List (Str × Int)} {st : Int} {i : Nat} (I : RcI l ws st i) {x : Str} {r c : Int} (hx : (x, r) ∈ ws) (c1 : 1 ≤ c) (c2 : c ≤ 999999999) : RcI (l ++ [.rep x c]) ws (st + 1 + c * (st + 1 - r + 1)) (i + 1) := by
  obtain ⟨a, b, e⟩ := I.wo _ hx
  have s0 := I.s0
  have s1 := I.s1
  have m0 : 0 ≤ c * (st + 1 - r + 1) := Int.mul_nonneg (by omega) (by omega)
  have m1 : c * (st + 1 - r + 1) ≤ 999999999 * (st + 2) := Int.mul_le_mul c2 (by omega) (by omega) (by decide)
  refine ⟨(ok_app _ _ _).mpr ⟨I.h, word_ok x a, (I.wm x).mpr (List.mem_map.mpr ⟨_, hx, rfl⟩), ⟨c1, by omega⟩, trivial⟩, by rw [List.length_append, I.ln]; rfl, fun y => by rw [mk_app]; exact I.wm y, by have := I.wl; omega, fun p hp => ?_, by omega, by rw [two32]; omega, fun y hy => ?_, fun y hy => ?_, fun y d hy => ?_⟩
  · obtain ⟨a, b, c⟩ := I.wo p hp
    exact ⟨a, b, by omega⟩
  · rcases List.mem_append.mp hy with z | z
    · exact I.mN y z
    · simp at z
  · rcases List.mem_append.mp hy with z | z
    · exact I.bN y z
    · simp at z
  · rcases List.mem_append.mp hy with z | z
    · exact I.cN y d z
    · have : y = x ∧ d = c := by simpa using z
      omega
theorem rec_some (ws : List (Str × Int)) (x : Str) : (dget (recD ws) (.str x)).isSome = true ↔ x ∈ ws.map (·.1) := by
  induction ws with
  | nil => simp [recD, dget]
  | cons p ws ih =>
    have e : keyEq (.str p.1) (.str x) = decide (p.1 = x) := by
      have := keyEq_kD (.inr p.1) (.inr x)
      simpa [kD] using this
    show (dget ((.str p.1, .int p.2) :: recD ws) (.str x)).isSome = true ↔ _
    unfold dget at ih ⊢
    rw [List.find?_cons]
    simp only [e]
    by_cases h : p.1 = x
    · simp [h]
    · simp only [h, decide_false]
      rw [ih]
      simp [Ne.symm h]
theorem rec_get {ws : List (Str × Int)} {x : Str} (h : x ∈ ws.map (·.1)) : ∃ r, (x, r) ∈ ws ∧ dget (recD ws) (.str x) = some (.int r) := by
  induction ws with
  | nil => simp at h
  | cons p ws ih =>
    have e : keyEq (.str p.1) (.str x) = decide (p.1 = x) := by
      have := keyEq_kD (.inr p.1) (.inr x)
      simpa [kD] using this
    by_cases hp : p.1 = x
    · refine ⟨p.2, by rw [← hp]; exact List.mem_cons_self, ?_⟩
      show dget ((.str p.1, .int p.2) :: recD ws) (.str x) = _
      unfold dget
      rw [List.find?_cons, e, decide_eq_true hp]
      rfl
    · have h2 : x ∈ ws.map (·.1) := by
        rcases List.mem_cons.mp h with z | z
        · exact absurd z.symm hp
        · exact z
      obtain ⟨r, h3, h4⟩ := ih h2
      refine ⟨r, List.mem_cons_of_mem _ h3, ?_⟩
      show dget ((.str p.1, .int p.2) :: recD ws) (.str x) = _
      unfold dget at h4 ⊢
      rw [List.find?_cons]
      simp only [e, hp, decide_false]
      exact h4
theorem rec_put {ws : List (Str × Int)} {x : Str} (h : x ∉ ws.map (·.1)) (v : Int) : dput (recD ws) (.str x) (.int v) = recD (ws ++ [(x, v)]) := by
  have e : ∀ p : Str × Int, keyEq (.str p.1) (.str x) = decide (p.1 = x) := fun p => by
    have := keyEq_kD (.inr p.1) (.inr x)
    simpa [kD] using this
  unfold dput recD
  have : ¬ (ws.map fun p : Str × Int => ((.str p.1, .int p.2) : D × D)).any (fun p => keyEq p.1 (.str x)) = true := by
    intro hh
    obtain ⟨p, hp, he⟩ := List.any_eq_true.mp hh
    obtain ⟨z, hz, rfl⟩ := List.mem_map.mp hp
    simp only [e, decide_eq_true_eq] at he
    exact h (List.mem_map.mpr ⟨z, hz, he⟩)
  rw [if_neg this, List.map_append]
  rfl
def fs_law_itemsS : FS := fun io ds Q _ => ∃ (n : Nat) (d : D) (most : Int), io = some (.io d) ∧ StrOk n d ∧ n ≤ 900000 ∧ ds = [.int most, .int 0] ∧ 0 ≤ most ∧ most ≤ 250 ∧
  ∀ (l : List It) d', ok [] l → (l.length : Int) ≤ most → (∀ x, It.mark x ∈ l → x ∈ wordL) → (∀ x, It.bar x ∈ l → x ∈ wordL) → (∀ x c, It.rep x c ∈ l → c ≤ 999999999) → StrOk (n + 2000) d' → Q (.ow (.list (sc l))) (some (.io d'))
def w_law_itemsS : WS := wSeq (wSet 3 (wLst (wCons (wC (.str "do")) (wCons (wC (.str "re")) (wCons (wC (.str "mi")) (wCons (wC (.str "fa")) (wCons (wC (.str "a")) (wCons (wC (.str "ab")) (wCons (wC (.str "abcdefgh")) (wCons (wC (.str "b")) (wCons (wC (.str "zz")) (wCons (wC (.str "none")) (wCons (wC (.str "z")) (wCons (wC (.str "bar")) (wCons (wC (.str "ok")) (wCons (wC (.str "mark")) (wNil))))))))))))))))) (wSeq (wPar [4, 5, 6] (wsCons (wLst (wNil)) (wsCons (wDict0) (wsCons (wC (.int 0)) (wsNil))))) (wSeq (wFor (wiR1 (wCons (wCallIo fs_law_drawS 0 [] (wCons (wOp oAdd (wVar 1) (wC (.int 1))) (wNil))) (wNil))) (wgName 7) (wSeq (wPar [8, 9] (wsCons (wCallIo fs_law_drawS 0 [] (wCons (wC (.int 6)) (wNil))) (wsCons (wOp oIx (wVar 3) (wCallIo fs_law_drawS 0 [] (wCons (wC (.int 14)) (wNil)))) (wsNil)))) (wSeq (wSet 6 (wOp oAdd (wVar 6) (wC (.int 1)))) (wSeq (wSet 10 (wTup (wCons (wC (.str "bar")) (wCons (wVar 9) (wNil))))) (wSeq (wIfS (wAnd (wT (wOp oEq (wVar 8) (wC (.int 2)))) (wT (wOp (oIn true) (wVar 9) (wVar 5)))) (wSeq (wSet 10 (wTup (wCons (wC (.str "mark")) (wCons (wVar 9) (wNil))))) (wDPut 5 (wVar 9) (wVar 6))) (wNext)) (wSeq (wIfS (wAnd (wT (wOp (oIB fun i j => decide (j < i)) (wVar 8) (wC (.int 2)))) (wT (wOp oNeD0 (wVar 5) (wDict0)))) (wSeq (wSet 11 (wOp oIx (wCB (o1 oListD) (wCons (wVar 5) (wNil))) (wCallIo fs_law_drawS 0 [] (wCons (wCB (o1 oLen) (wCons (wVar 5) (wNil))) (wNil))))) (wSeq (wSet 12 (wOp oAdd (wC (.int 1)) (wCallIo fs_law_drawS 0 [] (wCons (wOp oIx (wLst (wCons (wC (.int 2)) (wCons (wC (.int 9)) (wCons (wOp oIx (wLst (wCons (wC (.int 4)) (wCons (wOp (oII (fun _ _ => True) (· - ·)) (wOp (oII CPowW fun i j => i ^ j.toNat) (wC (.int 10)) (wC (.int 9))) (wC (.int 1))) (wNil)))) (wCB (o1 oInt) (wCons (wOp oEq (wVar 2) (wC (.int 0))) (wNil)))) (wNil))))) (wCallIo fs_law_drawS 0 [] (wCons (wC (.int 3)) (wNil)))) (wNil))))) (wSeq (wSet 13 (wOp oAdd (wVar 6) (wOp oMul (wVar 12) (wOp oAdd (wOp (oII (fun _ _ => True) (· - ·)) (wVar 6) (wOp oIx (wVar 5) (wVar 11))) (wC (.int 1)))))) (wIfS (wOr (wT (wOp oEq (wVar 2) (wC (.int 0)))) (wT (wOp (oIB fun i j => decide (i ≤ j)) (wVar 13) (wVar 2)))) (wPar [10, 6] (wsCons (wTup (wCons (wC (.str "repeat")) (wCons (wVar 11) (wCons (wVar 12) (wNil))))) (wsCons (wVar 13) (wsNil)))) (wNext))))) (wNext)) (wDrop (wMut 4 fAppend (wCons (wVar 10) wNil))))))))) (wRet (wVar 4))))
theorem fv_law_itemsS : FnV fs_law_itemsS 14 w_law_itemsS := by
  rintro io ds Q X ⟨n, d, most, rfl, hs, hn, rfl, m0, m1, q⟩
  show w_law_itemsS [.io d, .sh (.int most), .sh (.int 0), .no, .no, .no, .no, .no, .no, .no, .no, .no, .no, .no] _ _
  simp [w_law_itemsS, ev_wFor]
  refine drwS hs (by omega) (by omega) (by omega) fun t d1 t0 t1 hs1 => ?_
  obtain ⟨t, rfl⟩ : ∃ x : Nat, t = (x : Int) := ⟨t.toNat, by omega⟩
  simp
  refine ⟨by omega, ?_⟩
  refine loop_inv (fun i Γ => ∃ (d : D) (l : List It) (ws : List (Str × Int)) (st : Int) (a7 a8 a9 a10 a11 a12 a13 : Sl), Γ = [.io d, .sh (.int most), .sh (.int 0), .ow (.list (wordL.map .str)), .ow (.list (sc l)), .ow (.dict (recD ws)), .sh (.int st), a7, a8, a9, a10, a11, a12, a13] ∧ StrOk (n + 1 + 6 * i) d ∧ RcI l ws st i) ⟨d1, [], [], 0, _, _, _, _, _, _, _, rfl, hs1, RcI.start⟩ ?_ ?_
  · rintro i x Γ k hx ⟨d, l, ws, st, a7, a8, a9, a10, a11, a12, a13, rfl, hs, I⟩ hk
    have hi := (List.getElem?_eq_some_iff.mp hx).1
    simp [rangeD] at hi
    have wlen : wordL.length = 14 := rfl
    simp
    refine drwS hs (by omega) (by omega) (by omega) fun ch d2 ch0 ch1 hs2 => ?_
    simp
    refine drwS hs2 (by omega) (by omega) (by omega) fun wi d3 wi0 wi1 hs3 => ?_
    simp
    refine pick wi0 (by rw [List.length_map, wlen]; exact wi1) fun z hz => ?_
    obtain ⟨x, hx, rfl⟩ := List.mem_map.mp hz
    have hxk := rec_some ws x
    have hz1 : (sc l).length < sizeLine := small (by rw [sc_length, I.ln]; omega)
    have hz2 : (recD ws).length < sizeLine := small (by unfold recD; rw [List.length_map]; have := I.wl; omega)
    simp [shaped_int, eqv_int]
    have kbar : ∀ d' Γ', (∃ a7 a8 a9 a10 a11 a12 a13, Γ' = [.io d', .sh (.int most), .sh (.int 0), .ow (.list (wordL.map .str)), .ow (.list (sc (l ++ [.bar x]))), .ow (.dict (recD ws)), .sh (.int (st + 1)), a7, a8, a9, a10, a11, a12, a13]) → StrOk (n + 1 + 6 * (i + 1)) d' → k Γ' := by
      rintro d' Γ' ⟨a7, a8, a9, a10, a11, a12, a13, rfl⟩ hs
      exact hk _ ⟨d', _, _, _, _, _, _, _, _, _, _, rfl, hs, I.bar hx⟩
    have eB : sc l ++ [.tuple [.str "bar", .str x]] = sc (l ++ [.bar x]) := by simp [sc, It.d]
    have eM : sc l ++ [.tuple [.str "mark", .str x]] = sc (l ++ [.mark x]) := by simp [sc, It.d]
    by_cases c2 : ch = 2
    · subst c2
      rw [if_pos rfl]
      by_cases hxs : x ∈ ws.map (·.1)
      · have h1 : ¬ dget (recD ws) (.str x) = none := fun z => by rw [← hxk, z] at hxs; cases hxs
        rw [if_neg h1]
        simp [eB]
        exact ⟨hz1, kbar d3 _ ⟨_, _, _, _, _, _, _, rfl⟩ (hs3.mono (by omega))⟩
      · have h1 : dget (recD ws) (.str x) = none := by
          cases e : dget (recD ws) (.str x) with
          | none => rfl
          | some v => exact absurd (hxk.mp (by rw [e]; rfl)) hxs
        rw [if_pos h1]
        simp [eM, rec_put hxs]
        exact ⟨hz2, hz1, hk _ ⟨d3, _, _, _, _, _, _, _, _, _, _, rfl, hs3.mono (by omega), I.mark hx hxs⟩⟩
    · rw [if_neg c2]
      by_cases c3 : 2 < ch
      · rw [if_pos c3]
        by_cases hw : ws = []
        · have h1 : recD ws = [] := by rw [hw]; rfl
          rw [if_pos h1, eB]
          exact ⟨hz1, kbar d3 _ ⟨_, _, _, _, _, _, _, rfl⟩ (hs3.mono (by omega))⟩
        · have h1 : ¬ recD ws = [] := fun z => hw (by unfold recD at z; simpa using z)
          rw [if_neg h1]
          have hwl := List.length_pos_iff.mpr hw
          have hrl : (recD ws).length = ws.length := List.length_map _
          have hil := I.wl
          refine drwS hs3 (by omega) (by rw [hrl]; omega) (by rw [hrl]; omega) fun ti d4 ti0 ti1 hs4 => ?_
          simp
          refine pick ti0 (by rw [List.length_map]; exact ti1) fun z hz => ?_
          obtain ⟨y, r, hy, rfl⟩ : ∃ y r, (y, r) ∈ ws ∧ z = .str y := by
            unfold recD at hz
            rw [List.map_map] at hz
            obtain ⟨p, hp, rfl⟩ := List.mem_map.mp hz
            exact ⟨p.1, p.2, hp, rfl⟩
          obtain ⟨r', hr', hget⟩ := rec_get (List.mem_map.mpr ⟨_, hy, rfl⟩)
          simp
          have t9 : CPowW 10 9 := pow10 9 (by decide) (by decide)
          simp [t9, shaped_int, eqv_int]
          refine drwS hs4 (by omega) (by omega) (by omega) fun bi d5 bi0 bi1 hs5 => ?_
          simp
          refine pick bi0 (by simpa using bi1) fun z hz => ?_
          obtain ⟨b, rfl, b0, b1⟩ : ∃ b : Int, z = .int b ∧ 1 ≤ b ∧ b ≤ 999999999 := by
            simp only [List.mem_cons, List.not_mem_nil, or_false] at hz
            rcases hz with rfl | rfl | rfl
            all_goals exact ⟨_, rfl, by decide, by decide⟩
          simp
          refine drwS hs5 (by omega) (by omega) (by omega) fun jr d6 jr0 jr1 hs6 => ?_
          obtain ⟨w1, w2, w3⟩ := I.wo _ hr'
          have I2 := I.rep (c := 1 + jr) hr' (by omega) (by omega)
          have hix : ∀ kk : VL.R → Prop, kk (.sh (.int r')) → oIx (.dict (recD ws)) (.str y) kk := fun kk hk => by
            show (match dget (recD ws) (.str y) with
              | some d => kk (.sh d)
              | none => False)
            rw [hget]
            exact hk
          have s1 := I.s1
          have s0 := I.s0
          have hmul : CMulW (1 + jr) (st + 1 - r' + 1) := by
            refine wide_mul (a := 64) (b := 32 * i + 2) (by omega) ?_ (by decide) (by omega) (by omega)
            rw [Nat.pow_add]
            generalize hP : 2 ^ (32 * i) = P at *
            omega
          simp
          refine hix _ ?_
          have eR : sc l ++ [.tuple [.str "repeat", .str y, .int (1 + jr)]] = sc (l ++ [.rep y (1 + jr)]) := by simp [sc, It.d]
          simp [hmul, shaped_int, eqv_int, eR]
          exact ⟨hz1, hk _ ⟨d6, _, _, _, _, _, _, _, _, _, _, rfl, hs6.mono (by omega), I2⟩⟩
      · rw [if_neg c3, eB]
        exact ⟨hz1, kbar d3 _ ⟨_, _, _, _, _, _, _, rfl⟩ (hs3.mono (by omega))⟩
  · rintro Γ ⟨d, l, ws, st, a7, a8, a9, a10, a11, a12, a13, rfl, hs, I⟩
    simp [rangeD] at hs I
    simp
    exact q l d I.h (by rw [I.ln]; omega) I.mN I.bN I.cN (hs.mono (by omega))
end SC

set_option Elab.async false
set_option linter.all false
set_option maxRecDepth 100000
set_option pp.maxSteps 600
namespace SC
open PySem L2 VL
def itS : It → Str
  | .bar x => x
  | .mark x => Str.empty ++ x ++ ":"
  | .rep x c => Str.empty ++ x ++ "*" ++ Str.ofString (toString c)
def fmtS (l : List It) : Str := Txt.join " " (l.map itS)
theorem name_len {x : Str} (h : nameB x = true) : x.length ≤ 8 := by
  unfold nameB at h
  simp [Bool.and_eq_true] at h
  omega
theorem app_len (x y : Str) : (x ++ y).length = x.length + y.length := by
  show (x.cps ++ y.cps).size = _
  simp [Str.length]
theorem int_len {c : Int} (h : c.natAbs < bigI) : (Str.ofString (toString c)).length ≤ 2800 := shown_int h
theorem big31 : 2 ^ 31 ≤ bigI := by unfold bigI; decide +kernel
theorem emp_len : Str.empty.length = 0 := rfl
theorem col_len : (":" : Str).length = 1 := by decide +kernel
theorem star_len : ("*" : Str).length = 1 := by decide +kernel
theorem cnt_big {c : Int} (h1 : 1 ≤ c) (h2 : c < 2 ^ 31) : c.natAbs < bigI := Nat.lt_of_lt_of_le (by omega) big31
theorem itS_len {it : It} (h : it.shows) : (itS it).length ≤ 3000 := by
  cases it with
  | bar x =>
    have := name_len (x := x) h
    show x.length ≤ 3000
    omega
  | mark x =>
    have := name_len (x := x) h
    show (Str.empty ++ x ++ ":").length ≤ 3000
    rw [app_len, app_len, emp_len, col_len]
    omega
  | rep x c =>
    obtain ⟨hx, c1, c2⟩ := h
    have h1 := name_len hx
    have h2 := int_len (cnt_big c1 c2)
    show (Str.empty ++ x ++ "*" ++ Str.ofString (toString c)).length ≤ 3000
    rw [app_len, app_len, app_len, emp_len, star_len]
    omega
end SC

set_option Elab.async false
set_option linter.all false
set_option maxRecDepth 100000
set_option pp.maxSteps 600
namespace VL
open PySem L2
section
variable {X : Cx} {G : Gb} {W : WX}
def wSlS (wa : WE) (wl wh : WO) : WE := fun Γ Q X => wa Γ (fun r Γ1 => wl Γ1 (fun lo Γ2 => wh Γ2 (fun hi Γ3 => rdW r Γ3 fun d => isS d fun z => z.length ≤ sizeLine ∧ Q (.sh (.str (Txt.slice z lo hi))) Γ3) X) X) X
theorem sim_slS {te : TE} {wa : WE} {tl th : TO} {wl wh : WO} (ha : SimE G W te wa) (h1 : SimO G W tl wl) (h2 : SimO G W th wh) : SimE G W (tSl C8.rSlX te tl th) (wSlS wa wl wh) := by
  intro C Hi σ H Γ Q Qd Xd c hw hQ hX
  refine ha C Hi σ H Γ _ _ Xd c hw (fun v1 r1 H1 Hi1 Γ1 e1 o1 q1 => ?_) hX
  obtain ⟨Hi2, e2, c2, hh2⟩ := o1.hold
  have f2 := e1.trans e2
  refine h1 C Hi2 σ H1 Γ1 _ _ Xd c2 q1 (fun lo H3 Hi3 Γ3 e3 c3 q3 => ?_) fun x c d H' Hi' Γ' e' => hX x c d H' Hi' Γ' (f2.trans e')
  refine h2 C Hi3 σ H3 Γ3 _ _ Xd c3 q3 (fun hi H4 Hi4 Γ4 e4 c4 q4 => ?_) fun x c d H' Hi' Γ' e' => hX x c d H' Hi' Γ' ((f2.trans e3).trans e')
  obtain ⟨d, b, q5⟩ := (hh2.mono (e3.trans e4)).read c4 q4
  obtain ⟨z, rfl, hz, q6⟩ := isS_inv q5
  exact ⟨z, b.str, hz, hQ _ _ _ Hi4 Γ4 ((f2.trans e3).trans e4) (out_str c4 _) q6⟩
theorem de_slS {a : Expr} {ta : TE} {wa : WE} {lo hi : Option Expr} {tl th : TO} {wl wh : WO} {p2 pos : Pos} (ha : DE X G W a ta wa) (hl : DO X G W lo tl wl) (hh : DO X G W hi th wh) : DE X G W (.Subscript a (.Slice lo hi none p2) pos) (tSl C8.rSlX ta tl th) (wSlS wa wl wh) :=
  ⟨pe_slice C8.sl_txt ha.pe hl.pe hh.pe, sim_slS ha.sim hl.sim hh.sim⟩
def rIntS : List V → Hp → VK → Prop := fun xs H Q => ∃ a n, xs = [.str a] ∧ PySem.intText? a = some n ∧ a.length ≤ 640 ∧ Q (.int n) H
def oIntS : Op1 := fun d k => isS d fun a => ∃ n, PySem.intText? a = some n ∧ a.length ≤ 640 ∧ k (.sh (.int n))
theorem sem_intS : SemN G rIntS (o1 oIntS) := by
  refine semN_1 ?_
  intro C Hi σ H Γ x a k Q c ha h q
  obtain ⟨z, rfl, n, hn, hl, g⟩ := isS_inv h
  exact ⟨z, n, by rw [ha.str], hn, hl, q _ _ _ Hi (Ext.refl _) (out_int c _) g⟩
theorem t_intS : T1 X G "int" rIntS (o1 oIntS) := ⟨call_int_str, sem_intS⟩
@[simp ↓] theorem ev_wSlS (wa : WE) (wl wh : WO) (Γ : Ev) (Q : R → Ev → Prop) (X : XW) : wSlS wa wl wh Γ Q X = wa Γ (fun r Γ1 => wl Γ1 (fun lo Γ2 => wh Γ2 (fun hi Γ3 => rdW r Γ3 fun d => isS d fun z => z.length ≤ sizeLine ∧ Q (.sh (.str (Txt.slice z lo hi))) Γ3) X) X) X := rfl
@[simp ↓] theorem ev_oIntS (a : Str) (k : R → Prop) : oIntS (.str a) k = ∃ n, PySem.intText? a = some n ∧ a.length ≤ 640 ∧ k (.sh (.int n)) := rfl
end
end VL

set_option Elab.async false
set_option linter.all false
set_option maxRecDepth 100000
set_option pp.maxSteps 600
namespace VL
open PySem L2

noncomputable def argH (Hi H : Hp) (vs : List V) : Hp := fun a => (Classical.propDecidable (V.ref a ∈ vs)).casesOn (fun _ => Hi a) (fun _ => H a)
theorem argH_in {Hi H : Hp} {vs : List V} {a : Addr} (h : V.ref a ∈ vs) : argH Hi H vs a = H a := by
  unfold argH
  cases Classical.propDecidable (V.ref a ∈ vs) with
  | isTrue _ => rfl
  | isFalse n => exact absurd h n
theorem argH_out {Hi H : Hp} {vs : List V} {a : Addr} (h : ¬ V.ref a ∈ vs) : argH Hi H vs a = Hi a := by
  unfold argH
  cases Classical.propDecidable (V.ref a ∈ vs) with
  | isTrue z => exact absurd z h
  | isFalse n => rfl
theorem argH_lo {Hi H : Hp} {vs : List V} (e : Ext Hi H) : Ext Hi (argH Hi H vs) := fun a o h => by
  by_cases z : V.ref a ∈ vs
  · rw [argH_in z]; exact e a o h
  · rw [argH_out z]; exact h
theorem argH_hi {Hi H : Hp} {vs : List V} (e : Ext Hi H) : Ext (argH Hi H vs) H := fun a o h => by
  by_cases z : V.ref a ∈ vs
  · rw [argH_in z] at h; exact h
  · rw [argH_out z] at h; exact e a o h
theorem Rdb.repA {K : Fg} {Hi H : Hp} {ws : List V} {v : V} {d : D} (e : Ext Hi H) (h : Rdb K Hi H v d) (hm : v ∈ ws) : Rep K (argH Hi H ws) v d := by
  rcases h with h | ⟨p, rfl, h⟩
  · exact h.mono (argH_lo e)
  · cases h with
    | lst h r => exact .lst (by rw [argH_in hm]; exact h) (r.mono (argH_lo e))
    | dct h r => exact .dct (.inl (by rw [argH_in hm]; exact h)) (r.mono (argH_lo e))
theorem Rdbs.repsA {K : Fg} {Hi H : Hp} {ws : List V} (e : Ext Hi H) : ∀ {vs : List V} {ds : List D}, Rdbs K Hi H vs ds → (∀ v ∈ vs, v ∈ ws) → Reps K (argH Hi H ws) vs ds
  | _, _, .nil, _ => .nil
  | _, _, .cons h r, m => .cons (h.repA e (m _ List.mem_cons_self)) (Rdbs.repsA e r fun v hv => m v (List.mem_cons_of_mem _ hv))
theorem Rdb.notT {K : Fg} {Hi H : Hp} {p : Addr} {d : D} (h : Rdb K Hi H (.ref p) d) : Hi p ≠ none ∨ ∀ xs, H p ≠ some (.tup xs) := by
  rcases h with h | ⟨q, e, h⟩
  · left
    cases h with
    | lst h _ => rw [h]; simp
    | tup h _ => rw [h]; simp
    | dct h _ => rcases h with h | ⟨o, h⟩ <;> rw [h] <;> simp
  · right
    cases e
    intro xs z
    cases h with
    | lst h _ => rw [h] at z; cases z
    | dct h _ => rw [h] at z; cases z
theorem Rdbs.notT {K : Fg} {Hi H : Hp} {p : Addr} : ∀ {vs : List V} {ds : List D}, Rdbs K Hi H vs ds → V.ref p ∈ vs → Hi p ≠ none ∨ ∀ xs, H p ≠ some (.tup xs)
  | _, _, .nil, m => nomatch m
  | _, _, .cons h r, m => by
    rcases List.mem_cons.mp m with rfl | m
    · exact h.notT
    · exact Rdbs.notT r m
def flat2R : R → Prop
  | .sh (.tuple ds) => ds.all flatD = true
  | .sh d => flatD d = true
  | _ => False
def wCallB2 (fs : FS) (dv : List D) (wa : WA) : WE := fun Γ Q X => wa Γ (fun rs Γ1 => rdAll rs Γ1 fun ds => fs none (ds ++ dv) (fun r _ => flat2R r ∧ Q r Γ1) fun x _ => x.idx = none ∧ X x Γ1) X
section
variable {X : Cx} {G : Gb} {W : WX} {t : TA} {w : WA} {e : Expr} {es : List Expr} {p pos : Pos}
theorem sim_callB2 {fs : FS} {dvs : List V} {dv : List D} (hd : ∀ Hi, Reps G.K Hi dvs dv) (ha : SimA G W t w) : SimE G W (tCallSD (lift G fs) dvs (L2.WE W) t) (wCallB2 fs dv w) := by
  intro C Hi σ H Γ Q Qd Xd c hw hQ hX
  refine ha C Hi σ H Γ _ _ Xd c hw (fun vs rs H1 Hi1 Γ1 e1 c1 h1 q1 => ?_) hX
  obtain ⟨ds, bs, q2⟩ := h1.read c1 q1
  have im := c1.imm
  have rp := bs.repsA im fun v hv => hv
  refine ⟨none, ds ++ dv, argH Hi1 H1 vs, _, _, [], vs ++ dvs, [], rfl, ⟨rfl, rfl⟩, rp.append (hd _), argH_hi im, fun a ha => (nomatch ha), q2, fun v r H' Hi' io' fp' L ra ⟨fl, q⟩ => ?_, fun x cl d H' Hi' io' fp' L hx q => ?_⟩
  · have k : Ext H1 H' := fun a o h => L.keep a o h (fun z => nomatch z)
    cases r with
    | sh d =>
      by_cases ht : ∃ ds, d = .tuple ds
      · obtain ⟨ds, rfl⟩ := ht
        have fl : ds.all flatD = true := fl
        have ra : Rep G.K Hi' v (.tuple ds) := ra
        cases ra with
        | @tup a xs _ hp rx =>
          cases hn : Hi1 a with
          | some o =>
            have h2 := L.e a o (argH_lo im a o hn)
            rw [hp] at h2
            cases h2
            exact hQ _ (.sh (.tuple ds)) H' Hi1 Γ1 e1 ⟨c1.grow k (Ext.refl _) (im.trans k) fun _ _ z => .inl z, .tup hn (rx.flat_any fl)⟩ q
          | none =>
            have h0 : H1 a = none := by
              rcases L.ov a _ hp with z | z
              · by_cases m : V.ref a ∈ vs
                · rw [argH_in m] at z
                  rcases bs.notT m with y | y
                  · exact absurd hn y
                  · exact absurd z (y xs)
                · rw [argH_out m, hn] at z; cases z
              · exact z
            have c3 : Rel G C (upd Hi1 a (.tup xs)) _ H' Γ1 := c1.grow k (Ext.new hn) (fun b o h => by
              by_cases e : b = a
              · rw [e, upd_same] at h; rw [e, ← h]; exact L.imm a _ hp
              · rw [upd_ne e] at h; exact k b o (im b o h)) fun b o h => by
              by_cases e : b = a
              · rw [e]; exact .inr h0
              · rw [upd_ne e] at h; exact .inl h
            exact hQ _ (.sh (.tuple ds)) H' _ Γ1 (e1.trans (Ext.new hn)) ⟨c3, .tup upd_same (rx.flat_any fl)⟩ q
      · have fl : flatD d = true := by
          cases d with
          | tuple ds => exact absurd ⟨ds, rfl⟩ ht
          | _ => exact fl
        exact hQ v (.sh d) H' Hi1 Γ1 e1 ⟨c1.grow k (Ext.refl _) (im.trans k) fun _ _ z => .inl z, Rep.flat_any ra fl⟩ q
    | vr i => exact ra.elim
    | op t d => exact fl.elim
    | ow d => exact fl.elim
  · have k : Ext H1 H' := fun a o h => L.keep a o h (fun z => nomatch z)
    exact hX x cl d H' Hi1 Γ1 e1 (c1.grow k (Ext.refl _) (im.trans k) fun _ _ z => .inl z) (xr_none q.1 hx) q.2
theorem de_callB2D {k : Nat} {x : Str} {fs : FS} {ps : List Str} {dvs : List V} {dvd : List D} (hK : X.K = G.K) (F : Gd X.prog X.w G X.mg X.base k x fs ps dvs) (hr : Room k X.A) (tk : L2N.Takes X W) (hd : ∀ Hi, Reps G.K Hi dvs dvd) (ha : DA X G W (e :: es) t w) (hg : Gl X x := by rfl) (hdb : (x == ("__debug__" : Str)) = false := by decide)
    (he : starEach (e :: es) X.env = (false, eval e X.env) :: starEach es X.env := by rfl) (hpl : (backTo pos (starEach es X.env)).any (·.1) = false := by rfl) :
    DE X G W (.Call (.Name x p) (e :: es) [] pos) (tCallSD (lift G fs) dvs (L2.WE W) t) (wCallB2 fs dvd w) := by
  obtain ⟨f, fd, h1, h2, h3, ds, h4, h5⟩ := F
  rw [← hK] at h2 h5
  refine ⟨pe_callSD ?_ hr hg h1 h2 h5 h4 (L2N.passAt tk) ha.pe hdb he hpl, sim_callB2 hd ha.sim⟩
  rw [hK]; exact h3
theorem de_callB2 {k : Nat} {x : Str} {fs : FS} {ps : List Str} (hK : X.K = G.K) (F : Gd X.prog X.w G X.mg X.base k x fs ps []) (hr : Room k X.A) (tk : L2N.Takes X W) (ha : DA X G W (e :: es) t w) (hg : Gl X x := by rfl) (hdb : (x == ("__debug__" : Str)) = false := by decide)
    (he : starEach (e :: es) X.env = (false, eval e X.env) :: starEach es X.env := by rfl) (hpl : (backTo pos (starEach es X.env)).any (·.1) = false := by rfl) :
    DE X G W (.Call (.Name x p) (e :: es) [] pos) (tCallSD (lift G fs) [] (L2.WE W) t) (wCallB2 fs [] w) := de_callB2D hK F hr tk (fun _ => .nil) ha hg hdb he hpl
end
@[simp] theorem flat2R_t (ds : List D) : flat2R (.sh (.tuple ds)) = (ds.all flatD = true) := rfl
@[simp ↓] theorem ev_wCallB2 (fs : FS) (dv : List D) (wa : WA) (Γ : Ev) (Q : R → Ev → Prop) (X : XW) : wCallB2 fs dv wa Γ Q X = wa Γ (fun rs Γ1 => rdAll rs Γ1 fun ds => fs none (ds ++ dv) (fun r _ => flat2R r ∧ Q r Γ1) fun x _ => x.idx = none ∧ X x Γ1) X := rfl
end VL

set_option Elab.async false
set_option linter.all false
set_option maxRecDepth 100000
set_option pp.maxSteps 600
namespace SC
open PySem L2 VL
abbrev cs (x : Str) : List Nat := x.cps.toList
theorem str_ext {x y : Str} (h : cs x = cs y) : x = y := by
  cases x; cases y
  simp only [cs] at h
  congr
  exact Array.toList_inj.mp h
theorem cs_app (x y : Str) : cs (x ++ y) = cs x ++ cs y := by
  show (x.cps ++ y.cps).toList = _
  simp
theorem cs_len (x : Str) : (cs x).length = x.length := by simp [Str.length]
theorem S_cs (x : Str) : SX.S (cs x) = x := str_ext (by simp [SX.S])
abbrev dgt (c : Int) : Str := Str.ofString (toString c)
theorem dgt_nat (n : Nat) : cs (dgt (n : Int)) = TL.numL n := TL.tl_num n
theorem num_head : ∀ n : Nat, 1 ≤ n → (TL.numL n).head? ≠ some 48 := by
  intro n
  induction n using Nat.strongRecOn with
  | _ n ih =>
    intro h1
    by_cases h : n < 10
    · rw [TL.numL_lt h]
      simp
      omega
    · rw [TL.numL_step (by omega)]
      have hne := TL.numL_ne (n / 10)
      have := ih (n / 10) (by omega) (by omega)
      cases e : TL.numL (n / 10) with
      | nil => exact absurd e hne
      | cons a r => rw [e] at this; simpa using this
theorem not_name {s : Str} {k : Nat} (h : k ∈ cs s) (hk : letter k = false) : nameB s = false := by
  cases e : nameB s with
  | false => rfl
  | true =>
    unfold nameB at e
    simp only [Bool.and_eq_true] at e
    have := e.2
    have := List.all_eq_true.mp this k h
    rw [hk] at this
    cases this
theorem strOk_of {s : Str} (h : ∀ k ∈ cs s, k < 128) : PyData.strOk s = true := by
  unfold PyData.strOk
  rw [← Array.all_toList, List.all_eq_true]
  intro k hk
  have := h k hk
  simp
  omega
theorem ten_digits : ("0123456789" : Str).cps.toList = [48, 49, 50, 51, 52, 53, 54, 55, 56, 57] := by decide +kernel
theorem itS_free {it : It} (h : it.shows) : 32 ∉ cs (itS it) := by
  have nl : ∀ x : Str, nameB x = true → 32 ∉ cs x := fun x hx hm => by
    have := not_name hm (by decide +kernel)
    rw [hx] at this
    cases this
  cases it with
  | bar x => exact nl x h
  | mark x =>
    show 32 ∉ cs (Str.empty ++ x ++ ":")
    rw [cs_app, cs_app]
    intro hm
    rcases List.mem_append.mp hm with hm | hm
    · rcases List.mem_append.mp hm with hm | hm
      · cases hm
      · exact nl x h hm
    · have e : cs ":" = [58] := by decide +kernel
      rw [e] at hm
      simp at hm
  | rep x c =>
    obtain ⟨hx, c1, c2⟩ := h
    obtain ⟨n, rfl⟩ : ∃ n : Nat, c = (n : Int) := ⟨c.toNat, by omega⟩
    show 32 ∉ cs (Str.empty ++ x ++ "*" ++ dgt (n : Int))
    rw [cs_app, cs_app, cs_app, dgt_nat]
    intro hm
    rcases List.mem_append.mp hm with hm | hm
    · rcases List.mem_append.mp hm with hm | hm
      · rcases List.mem_append.mp hm with hm | hm
        · cases hm
        · exact nl x hx hm
      · have e : cs "*" = [42] := by decide +kernel
        rw [e] at hm
        simp at hm
    · exact TL.numL_free (.inl (by decide)) hm
theorem sp_S : SX.S [32] = (" " : Str) := by decide +kernel
theorem words_S (l : List It) : l.map itS = (l.map fun it => cs (itS it)).map SX.S := by
  rw [List.map_map]
  exact List.map_congr_left fun it _ => (S_cs _).symm
theorem fmt_S (l : List It) : fmtS l = SX.S (TL.joinL [32] (l.map fun it => cs (itS it))) := by
  unfold fmtS
  rw [words_S, ← sp_S]
  exact SX.join_S [32] _
theorem fmt_split {l : List It} (h : ∀ it ∈ l, it.shows) (hne : l ≠ []) : Txt.split (fmtS l) " " = l.map itS := by
  rw [fmt_S, ← sp_S, SX.split_S (by simp) (by decide), SX.spl_join (by simpa using hne) (fun p hp => ?_), words_S]
  obtain ⟨it, hi, rfl⟩ := List.mem_map.mp hp
  exact itS_free (h it hi)
theorem fmt_nil : fmtS [] = "" := by
  rw [fmt_S]
  decide +kernel
theorem itS_ne {it : It} (h : it.shows) : cs (itS it) ≠ [] := by
  have hn : ∀ x : Str, nameB x = true → cs x ≠ [] := fun x hx e => by
    have h1 : x.length = 0 := by rw [← cs_len, e]; rfl
    unfold nameB at hx
    simp [h1] at hx
  cases it with
  | bar x => exact hn x h
  | mark x =>
    show cs (Str.empty ++ x ++ ":") ≠ []
    rw [cs_app, cs_app]
    intro e
    exact hn x h (List.append_eq_nil_iff.mp (List.append_eq_nil_iff.mp e).1).2
  | rep x c =>
    show cs (Str.empty ++ x ++ "*" ++ Str.ofString (toString c)) ≠ []
    rw [cs_app, cs_app, cs_app]
    intro e
    exact hn x h.1 (List.append_eq_nil_iff.mp (List.append_eq_nil_iff.mp (List.append_eq_nil_iff.mp e).1).1).2
theorem fmt_ne {l : List It} (h : ∀ it ∈ l, it.shows) (hne : l ≠ []) : fmtS l ≠ "" := by
  intro e
  have h1 := fmt_split h hne
  rw [e] at h1
  have h2 : Txt.split "" " " = [("" : Str)] := by decide +kernel
  rw [h2] at h1
  cases l with
  | nil => exact hne rfl
  | cons a r =>
    have h3 : itS a = "" := by
      have := congrArg List.head? h1
      simpa using this.symm
    exact itS_ne (h a List.mem_cons_self) (by rw [h3]; rfl)
theorem letter_lt {k : Nat} (h : letter k = true) : k < 128 := by
  have : ∀ k ∈ letters.cps.toList, k < 128 := by decide +kernel
  exact this k (of_decide_eq_true h)
theorem itS_lt {it : It} (h : it.shows) : ∀ k ∈ cs (itS it), k < 128 := by
  have nl : ∀ x : Str, nameB x = true → ∀ k ∈ cs x, k < 128 := fun x hx k hk => by
    unfold nameB at hx
    rw [Bool.and_eq_true] at hx
    exact letter_lt (List.all_eq_true.mp hx.2 k hk)
  have e1 : cs ":" = [58] := by decide +kernel
  have e2 : cs "*" = [42] := by decide +kernel
  cases it with
  | bar x => exact nl x h
  | mark x =>
    intro k hk
    have hk : k ∈ cs (Str.empty ++ x ++ ":") := hk
    rw [cs_app, cs_app, e1] at hk
    rcases List.mem_append.mp hk with hm | hm
    · rcases List.mem_append.mp hm with hm | hm
      · cases hm
      · exact nl x h k hm
    · simp at hm; omega
  | rep x c =>
    obtain ⟨hx, c1, c2⟩ := h
    obtain ⟨n, rfl⟩ : ∃ n : Nat, c = (n : Int) := ⟨c.toNat, by omega⟩
    intro k hk
    have hk : k ∈ cs (Str.empty ++ x ++ "*" ++ dgt (n : Int)) := hk
    rw [cs_app, cs_app, cs_app, dgt_nat, e2] at hk
    rcases List.mem_append.mp hk with hm | hm
    · rcases List.mem_append.mp hm with hm | hm
      · rcases List.mem_append.mp hm with hm | hm
        · cases hm
        · exact nl x hx k hm
      · simp at hm; omega
    · have := TL.numL_digits n k hm
      omega
theorem join_mem {S : List Nat} {k : Nat} : ∀ {ps : List (List Nat)}, k ∈ TL.joinL S ps → k ∈ S ∨ ∃ p ∈ ps, k ∈ p
  | [], h => by cases h
  | [p], h => .inr ⟨p, List.mem_cons_self, h⟩
  | p :: q :: r, h => by
    have h : k ∈ p ++ (S ++ TL.joinL S (q :: r)) := h
    rcases List.mem_append.mp h with h | h
    · exact .inr ⟨p, List.mem_cons_self, h⟩
    · rcases List.mem_append.mp h with h | h
      · exact .inl h
      · rcases join_mem h with z | ⟨p', hp, z⟩
        · exact .inl z
        · exact .inr ⟨p', List.mem_cons_of_mem _ hp, z⟩
theorem join_len {S : List Nat} {b : Nat} : ∀ {ps : List (List Nat)}, (∀ p ∈ ps, p.length ≤ b) → (TL.joinL S ps).length ≤ (b + S.length) * ps.length
  | [], _ => Nat.zero_le _
  | [p], h => by
    have := h p List.mem_cons_self
    show p.length ≤ _
    simp
    omega
  | p :: q :: r, h => by
    have h1 := h p List.mem_cons_self
    have h2 := join_len (S := S) (ps := q :: r) fun x hx => h x (List.mem_cons_of_mem _ hx)
    show (p ++ (S ++ TL.joinL S (q :: r))).length ≤ _
    rw [List.length_append, List.length_append, List.length_cons (a := p), Nat.mul_succ]
    omega
theorem fmt_cs (l : List It) : cs (fmtS l) = TL.joinL [32] (l.map fun it => cs (itS it)) := by rw [fmt_S]
end SC

set_option Elab.async false
set_option linter.all false
set_option maxRecDepth 100000
set_option maxHeartbeats 2000000
namespace VL
open PySem PySem.Spec PyProof.Rows L2

theorem oxB_ok {K : Fg} {C : Addr} (q : oxB K C = true) : ∃ nm q N bs bm sn sub ab col dd k0 k1 k2 k3 k5, K.lookup C = some (excClassObj nm q C N bs bm true sn sub ab col dd k0 k1 k2 k3 k5 "ValueError.__new__") ∧ PySem.HandSPX.refsVE bm = true := by
  unfold oxB at q
  split at q
  · rename_i dd cd sl ho
    split at q
    · rename_i C' bm k0 k1 k2 k3 n k5 hm hs
      simp only [Bool.and_eq_true, beq_iff_eq, Bool.not_eq_true'] at q
      obtain ⟨⟨⟨⟨rfl, rfl⟩, hdel⟩, hdict⟩, ht⟩ := q
      obtain ⟨nm, bs, mro, ns, qn, hd, sn, sub, ab, col, del⟩ := cd
      dsimp only at hm hdel hdict
      subst hm hdel hdict
      have hsl : sl = #[k0, k1, k2, k3, some (.builtin "ValueError.__new__"), k5] := by
        obtain ⟨l⟩ := sl
        simp only at hs
        rw [hs]
      subst hsl
      exact ⟨nm, qn, ns, bs, bm, sn, sub, ab, col, dd, k0, k1, k2, k3, k5, ho, ht⟩
    · cases q
  · cases q
structure OiF (K : Fg) (nm : Str) : Prop where
  x : OexC K (He.ga K nm)
  noN : PySem.W.findIn K (.ref (He.ga K nm)) "index" = some none
  iC : PySem.W.findIn K (.ref (He.ga K nm)) "__init__" = some (some (.ref (He.fAd K (nm, some "__init__"))))
  tI : PySem.W.typeIn K (.ref (He.fAd K (nm, some "__init__"))) = some (.type "function")
  te : PySem.W.exmOne K (.ref (He.ga K nm)) (.ref (He.ga K nm)) = some true
  ga : PySem.W.findIn K (.ref (He.ga K nm)) "__getattribute__" = some (some (.builtin "BaseException.__getattribute__"))
  gg : PySem.W.findIn K (.ref (He.ga K nm)) "__getattr__" = some none
  hd : PySem.W.hasDictIn K (He.ga K nm) = true
theorem oiB_ok {K : Fg} {nm : Str} (h : oiB K nm = true) : OiF K nm := by
  unfold oiB at h
  obtain ⟨h12, h3⟩ := He.ba h
  obtain ⟨h1, h2⟩ := He.ba h12
  obtain ⟨a, b⟩ := He.ba h1
  obtain ⟨a1, a2⟩ := He.ba a
  obtain ⟨b1, b2⟩ := He.ba b
  obtain ⟨c, d⟩ := He.ba h2
  obtain ⟨c1, c2⟩ := He.ba c
  obtain ⟨d1, d2⟩ := He.ba d
  obtain ⟨e, f⟩ := He.ba h3
  obtain ⟨e1, e2⟩ := He.ba e
  obtain ⟨f1, f2⟩ := He.ba f
  exact ⟨⟨oxB_ok a1, He.eqO_ok a2, of_decide_eq_true b1, of_decide_eq_true b2, c1⟩, He.eqO_ok c2, He.eqO_ok d1, of_decide_eq_true d2, of_decide_eq_true e1, He.eqO_ok e2, He.eqO_ok f1, f2⟩

def spIx (K : Fg) : Sp := fun vs H Q _ => ∃ (a C : Addr) (y : V), vs = [.ref a, y] ∧ OexC K C ∧ PySem.W.findIn K (.ref C) "index" = some none ∧ H a = some (exo a C none) ∧
  ∀ dx, H dx = none → dx ≠ a → Q .non (upd (upd H dx (exd dx [(("index" : Str), y)])) a (exo a C (some dx)))
theorem init_ok {P : Program} {w : World} {K : Fg} {mg : Str → Option Value} {base : Heap} {qual : Str} {params : Arguments} {scope : Scope} {dvs : List V} {kws : List (Str × V)} {f : Addr} {fd : FuncData} {p1 p2 p3 p4 : Pos} {body : List Stmt}
    (F : FunD K "__init__" qual params body scope dvs kws f fd) (est : body = [.Assign [.Attribute (.Name "self" p1) "index" p2] (.Name "index" p3) p4]) (S : FnScope ["self", "index"] ["self", "index"] scope) (v0 : scope.names.lookup ("self" : Str) = some NameKind.local) (v1 : scope.names.lookup ("index" : Str) = some NameKind.local) :
    FnOk P w K mg base (L2N.CX P w) 1 f fd ["self", "index"] (spIx K) := by
  subst est
  refine FunD.ok F S (fun vs H Q E h => ?_) fun cdv A outer s H vs Q E hr h => ?_
  · obtain ⟨a, C, y, rfl, _⟩ := h
    rfl
  · obtain ⟨a, C, y, rfl, T, hn, ha, q⟩ := h
    refine ⟨_, pss_one (ps_ost (pe_var (i := 0) rfl (.inl v0) (by decide) (by decide)) (pe_var (i := 1) rfl (.inl v1) (by decide) (by decide))), ?_⟩
    exact ⟨_, rfl, _, rfl, a, C, rfl, T, hn, .inl ⟨ha, fun dx h1 h2 => q dx h1 h2⟩⟩

section
variable {X : Cx} {CX : CXT} {x : Str} {C fI : Addr} {k : Nat} {fd : FuncData} {ps : List Str} {sp : Sp} {ds : List Value} {dvs : List V}
theorem run_oex {pins : List (Addr × Obj)} {s : Shared} {σ : St} {H : Hp} {Q : XK} {us : List Value} {vs : List V} (T : OexC X.K C) (iC : PySem.W.findIn X.K (.ref C) "__init__" = some (some (.ref fI))) (tI : PySem.W.typeIn X.K (.ref fI) = some (.type "function"))
    (F1 : FnOk X.prog X.w X.K X.mg X.base CX k fI fd ps sp) (hr : Room (k + 1) X.A) (hb : Binds X.K fd ps ds) (hd : Vals dvs ds) (hx : Passes CX X (fun _ _ _ => False)) (I : Inv X pins σ H s) (r : Vals vs us) (hz : vs.length ≤ 1000)
    (h : ∀ a, H a = none → sp (.ref a :: (vs ++ dvs)) (upd H a (exo a C none)) (fun v H2 => v = .non ∧ ∃ (d : Addr) (fs : List (Str × V)), H2 a = some (exo a C (some d)) ∧ H2 d = some (exd d fs) ∧ H d = none ∧ Q (.ref C) (some d) (upd (del H2 a) d (.xd fs))) (fun _ _ _ => False)) :
    wpAny (model X.prog X.w) X.A (call (.ref C) us) (L2N.MkP X pins σ Q) X.xe s := by
  obtain ⟨nm, qn, N, bs, bm, sn, sub, ab, col, dd, k0, k1, k2, k3, k5, hC, hbm⟩ := T.cls
  obtain ⟨hp, g, dr, tk, os⟩ := s
  have big : hp.objs.size ≤ hp.objs.size + 1 := Nat.le_succ _
  have new : H (hp.objs.size + 1) = none := I.hok.fresh big
  have q0 := h (hp.objs.size + 1) new
  have up : ∀ b o, hp.get? b = some o → ((hp.push (PySem.W.kdv_tup us)).push (PySem.HandSPX.excO C hp.objs.size)).get? b = some o := fun b o e => Heap.get?_push_of_some _ (Heap.get?_push_of_some _ e)
  have at1 : ((hp.push (PySem.W.kdv_tup us)).push (PySem.HandSPX.excO C hp.objs.size)).get? (hp.objs.size + 1) = some (PySem.HandSPX.excO C hp.objs.size) := by heap_get
  have J : Inv X pins σ (upd H (hp.objs.size + 1) (exo (hp.objs.size + 1) C none)) ⟨(hp.push (PySem.W.kdv_tup us)).push (PySem.HandSPX.excO C hp.objs.size), g, dr, tk, os⟩ :=
    I.laid (t' := tk) (a := hp.objs.size + 1) (o := exo (hp.objs.size + 1) C none) (h' := (hp.push (PySem.W.kdv_tup us)).push (PySem.HandSPX.excO C hp.objs.size)) up big (exo_ok at1)
  have rv : Vals (V.ref (hp.objs.size + 1) :: (vs ++ dvs)) (Value.ref (hp.objs.size + 1) :: (us ++ ds)) := .cons rfl (r.append hd)
  have hl : (Value.ref (hp.objs.size + 1) :: us ++ ds).length = ps.length := by
    have e := rv.length
    rw [F1.len _ _ _ _ q0] at e
    exact e.symm
  have few : us.length ≤ sizeLine := by
    rw [← Paired.length r, sizeLine_eq]
    omega
  refine wpAny_call (PySem.HandSPX.call_own F.excBase_ValueError (fun Y => PySem.HandSPX.refsVE_contains Y bm hbm) (I.kIn _ _ hC) (PySem.W.looks_findIn I.kIn iC) (fun self => PySem.W.bind_fn I.kIn self tI) few
    (codeAny_mono (F1.run _ X.stack _ _ ⟨Value.ref (hp.objs.size + 1) :: us, []⟩ (Value.ref (hp.objs.size + 1) :: (us ++ ds)) _ _ (fun _ _ _ => False) (hr.make C us []) (J.env0.make C us []) (hb _ (Value.ref (hp.objs.size + 1) :: us) J.kIn hl) rv q0) fun res s' q1 => ?_))
  cases res with
  | error er => exact hx pins σ _ _ er s' J q1
  | ok fl =>
    cases fl with
    | ret u =>
      obtain ⟨v, H2, os2, bare2, un2, hok2, rv2, ev, d, fs, ea, ed, hd1, q2⟩ := q1
      subst ev
      obtain ⟨h2, g2, d2, t2, os'⟩ := s'
      obtain ⟨t0, B, J2, kB, gone, there, na⟩ := mk_end0 (d2 := d2) (t2 := t2) I big up un2 hok2 os2 bare2 ea ed hd1
      exact ⟨rv2, hp.objs.size + 1, _, _, ⟨B, g2, d2, t2, os'⟩, _, .ref C, some d, rfl, J2, kB, gone, there, ⟨rfl, rfl, fun vs hv => by cases hv; rfl⟩, rfl, rfl, na, rfl, bare2, raises_own T.exC T.tyC, q2⟩
    | next => exact False.elim q1
    | brk => exact False.elim q1
    | cont => exact False.elim q1
variable {e : Expr} {es : List Expr} {ta : TA} {p pos : Pos}
theorem pmk_oexN (T : OexC X.K C) (iC : PySem.W.findIn X.K (.ref C) "__init__" = some (some (.ref fI))) (tI : PySem.W.typeIn X.K (.ref fI) = some (.type "function"))
    (F1 : FnOk X.prog X.w X.K X.mg X.base CX k fI fd ps sp) (hr : Room (k + 1) X.A) (hb : Binds X.K fd ps ds) (hd : Vals dvs ds) (hx : Passes CX X (fun _ _ _ => False)) (hg : Gl X x) (hm : X.mg x = some (.ref C)) (ha : PA X (e :: es) ta)
    (hdb : (x == ("__debug__" : Str)) = false := by decide) (he : starEach (e :: es) X.env = (false, eval e X.env) :: starEach es X.env := by rfl) (hpl : (backTo pos (starEach es X.env)).any (·.1) = false := by rfl) :
    L2N.PMk X (.Call (.Name x p) (e :: es) [] pos) (tMkO C sp dvs ta) := by
  intro pins s σ H Q I h
  refine wpAny_Call_Name_kw (ld_glob I hg hm ?_ hdb)
  exact PySem.W.callWith_K (h₀ := X.base) I.ok.mod.kin T.kC (thn (ha.run pos pins s σ H _ I h) fun us s1 ⟨vs, H1, I1, r1, hz, q1⟩ => ⟨I1.kIn, run_oex T iC tI F1 hr hb hd hx I1 r1 hz q1⟩) he hpl
theorem pmk_oexN0 (T : OexC X.K C) (iC : PySem.W.findIn X.K (.ref C) "__init__" = some (some (.ref fI))) (tI : PySem.W.typeIn X.K (.ref fI) = some (.type "function"))
    (F1 : FnOk X.prog X.w X.K X.mg X.base CX k fI fd ps sp) (hr : Room (k + 1) X.A) (hb : Binds X.K fd ps ds) (hd : Vals dvs ds) (hx : Passes CX X (fun _ _ _ => False)) (hg : Gl X x) (hm : X.mg x = some (.ref C)) (hdb : (x == ("__debug__" : Str)) = false := by decide) :
    L2N.PMk X (.Call (.Name x p) [] [] pos) (tMkO C sp dvs tNil) := by
  intro pins s σ H Q I h
  refine wpAny_Call_Name_kw (ld_glob I hg hm ?_ hdb)
  exact PySem.W.callWith_K0 I.kIn T.kC (run_oex (us := []) (vs := []) T iC tI F1 hr hb hd hx I .nil h.1 h.2)
end

def MkI (P : Program) (wd : World) (K : Fg) (mg : Str → Option Value) (base : Heap) (nm : Str) : Prop := mg nm = some (.ref (He.ga K nm)) ∧ OiF K nm ∧ ∃ fd : FuncData, FnOk P wd K mg base (L2N.CX P wd) 1 (He.fAd K (nm, some "__init__")) fd ["self", "index"] (spIx K) ∧ (∃ ds, Vals [] ds ∧ Binds K fd ["self", "index"] ds) ∧ ∃ ds, Vals [.non] ds ∧ Binds K fd ["self", "index"] ds
theorem MkI.ok {P : Program} {wd : World} {K : Fg} {mg : Str → Option Value} {base : Heap} {nm : Str} (h : MkI P wd K mg base nm) : OiF K nm ∧ mg nm = some (.ref (He.ga K nm)) := ⟨h.2.1, h.1⟩
def wRaiseI (nm : Str) (we : WE) : WS := fun Γ _ X => we Γ (fun r Γ1 => rdW r Γ1 fun d => match d with
  | .int i => X ⟨nm, some (.int i)⟩ Γ1
  | .none => X ⟨nm, some .non⟩ Γ1
  | _ => False) X
def wRaiseI0 (nm : Str) : WS := fun Γ _ X => X ⟨nm, some .non⟩ Γ
section
variable {X : Cx} {G : Gb} {W : WX} {nm : Str} {p pos pos' : Pos} {e : Expr} {te : TE} {we : WE}
theorem never_passes : Passes (L2N.CX X.prog X.w) X (fun _ _ _ => False) := fun pins σ H s er s' I c => by
  obtain ⟨_, _, _, _, _, _, _, _, _, _, _, _, z⟩ := c
  exact z.elim
theorem raise_ends (hca : G.ca = He.ga G.K) (T : OiF G.K nm) {C : Cf} {Hi H : Hp} {σ : St} {Γ : Ev} {v : V} {Q : XK} (c : Rel G C Hi σ H Γ)
    (q : ∀ H' Hi' dx, Ext Hi Hi' → Rel G C Hi' σ H' Γ → G.xr ⟨nm, some v⟩ (.ref (He.ga G.K nm)) (some dx) Hi' → Q (.ref (He.ga G.K nm)) (some dx) H') {a : Addr} (ha : H a = none) :
    spIx G.K [.ref a, v] (upd H a (exo a (He.ga G.K nm) none)) (fun u H2 => u = .non ∧ ∃ (d : Addr) (fs : List (Str × V)), H2 a = some (exo a (He.ga G.K nm) (some d)) ∧ H2 d = some (exd d fs) ∧ H d = none ∧ Q (.ref (He.ga G.K nm)) (some d) (upd (del H2 a) d (.xd fs))) (fun _ _ _ => False) := by
  refine ⟨a, He.ga G.K nm, v, rfl, T.x, T.noN, upd_same, fun dx h1 h2 => ?_⟩
  have hdx : H dx = none := by rw [upd_ne h2] at h1; exact h1
  refine ⟨rfl, dx, [(("index" : Str), v)], upd_same, by rw [upd_ne h2, upd_same], hdx, ?_⟩
  have e : (upd (del (upd (upd (upd H a (exo a (He.ga G.K nm) none)) dx (exd dx [(("index" : Str), v)])) a (exo a (He.ga G.K nm) (some dx))) a) dx (.xd [(("index" : Str), v)])) = upd H dx (.xd [(("index" : Str), v)]) := by
    funext b
    by_cases z : b = dx
    · rw [z, upd_same, upd_same]
    · rw [upd_ne z, upd_ne z]
      by_cases z2 : b = a
      · rw [z2, del_same, ha]
      · rw [del_ne z2, upd_ne z2, upd_ne z, upd_ne z2]
  rw [e]
  obtain ⟨e2, c2⟩ := c.laid (o := .xd [(("index" : Str), v)]) hdx
  exact q _ _ dx e2 c2 ⟨by rw [hca], dx, rfl, upd_same⟩
theorem sim_raiseI (hca : G.ca = He.ga G.K) (T : OiF G.K nm) (he : SimE G W te we) : SimS G W (fun _ σ H => tMkO (He.ga G.K nm) (spIx G.K) [] (tCons te tNil) σ H fun cls d H' => W cls d σ H') (wRaiseI nm we) := by
  intro C Hi σ H Γ Dn Dd Xd c hw h1 h2 h3 h4 h5
  refine he C Hi σ H Γ _ _ Xd c hw (fun v r H1 Hi1 Γ1 e1 o1 q1 => ?_) fun x cl d H' Hi' Γ' e c' hx q => h5 x cl d σ H' Hi' Γ' e c' hx q
  obtain ⟨Hi2, e2, c2, hh⟩ := o1.hold
  obtain ⟨d, rd, q2⟩ := hh.read c2 q1
  cases d with
  | int i =>
    have ev : v = .int i := rd.int
    subst ev
    exact ⟨by simp, fun a ha => raise_ends (Q := fun cls d H' => W cls d σ H') hca T c2 (fun H' Hi' dx e3 c3 hx => h5 ⟨nm, some (.int i)⟩ _ _ σ _ Hi' _ ((e1.trans e2).trans e3) c3 hx q2) ha⟩
  | none =>
    have ev : v = .non := rd.non
    subst ev
    exact ⟨by simp, fun a ha => raise_ends (Q := fun cls d H' => W cls d σ H') hca T c2 (fun H' Hi' dx e3 c3 hx => h5 ⟨nm, some .non⟩ _ _ σ _ Hi' _ ((e1.trans e2).trans e3) c3 hx q2) ha⟩
  | _ => exact q2.elim
theorem sim_raiseI0 (hca : G.ca = He.ga G.K) (T : OiF G.K nm) : SimS G W (fun _ σ H => tMkO (He.ga G.K nm) (spIx G.K) [.non] tNil σ H fun cls d H' => W cls d σ H') (wRaiseI0 nm) := by
  intro C Hi σ H Γ Dn Dd Xd c hw h1 h2 h3 h4 h5
  exact ⟨by simp, fun a ha => raise_ends (Q := fun cls d H' => W cls d σ H') hca T c (fun H' Hi' dx e3 c3 hx => h5 ⟨nm, some .non⟩ _ _ σ _ Hi' _ e3 c3 hx hw) ha⟩
theorem ds_raiseI (hK : X.K = G.K) (hca : G.ca = He.ga G.K) (hc : X.calm = true) (hr : Room 2 X.A) (tk : L2N.Takes X W) (mk : MkI X.prog X.w G.K X.mg X.base nm) (he : DE X G W e te we) (hg : Gl X nm := by rfl) (hdb : (nm == ("__debug__" : Str)) = false := by decide)
    (hst : starEach (e :: []) X.env = (false, eval e X.env) :: starEach [] X.env := by rfl) (hpl : (backTo pos' (starEach [] X.env)).any (·.1) = false := by rfl) :
    DS X G W (.Raise (some (.Call (.Name nm p) [e] [] pos')) none pos) (fun _ σ H => tMkO (He.ga G.K nm) (spIx G.K) [] (tCons te tNil) σ H fun cls d H' => W cls d σ H') (wRaiseI nm we) := by
  obtain ⟨hm, T, fd, F1, ⟨ds, hd, hb⟩, _⟩ := mk
  refine ⟨L2N.ps_raise hc tk (pmk_oexN (by rw [hK]; exact T.x) (by rw [hK]; exact T.iC) (by rw [hK]; exact T.tI) (by rw [hK]; exact F1) (hr.mono (by decide)) (by rw [hK]; exact hb) hd never_passes hg hm (pa_cons he.pe pa_nil hst) hdb hst hpl), sim_raiseI hca T he.sim⟩
theorem ds_raiseI0 (hK : X.K = G.K) (hca : G.ca = He.ga G.K) (hc : X.calm = true) (hr : Room 2 X.A) (tk : L2N.Takes X W) (mk : MkI X.prog X.w G.K X.mg X.base nm) (hg : Gl X nm := by rfl) (hdb : (nm == ("__debug__" : Str)) = false := by decide) :
    DS X G W (.Raise (some (.Call (.Name nm p) [] [] pos')) none pos) (fun _ σ H => tMkO (He.ga G.K nm) (spIx G.K) [.non] tNil σ H fun cls d H' => W cls d σ H') (wRaiseI0 nm) := by
  obtain ⟨hm, T, fd, F1, _, ds, hd, hb⟩ := mk
  refine ⟨L2N.ps_raise hc tk (pmk_oexN0 (by rw [hK]; exact T.x) (by rw [hK]; exact T.iC) (by rw [hK]; exact T.tI) (by rw [hK]; exact F1) (hr.mono (by decide)) (by rw [hK]; exact hb) hd never_passes hg hm hdb), sim_raiseI0 hca T⟩
def wTryN (nm : Str) (wb ws : WS) : WS := fun Γ D _ => wb Γ D fun e Γ1 => e.name = nm ∧ ws Γ1 D fun _ _ => False
section
variable {tb : WX → TS} {ts : TS} {wb wu : WS}
end
end
@[simp ↓] theorem ev_wRaiseI (nm : Str) (we : WE) (Γ : Ev) (D : WD) (X : XW) : wRaiseI nm we Γ D X = we Γ (fun r Γ1 => rdW r Γ1 fun d => match d with
  | .int i => X ⟨nm, some (.int i)⟩ Γ1
  | .none => X ⟨nm, some .non⟩ Γ1
  | _ => False) X := rfl
@[simp ↓] theorem ev_wRaiseI0 (nm : Str) (Γ : Ev) (D : WD) (X : XW) : wRaiseI0 nm Γ D X = X ⟨nm, some .non⟩ Γ := rfl
@[simp ↓] theorem ev_wTryN (nm : Str) (wb ws : WS) (Γ : Ev) (D : WD) (X : XW) : wTryN nm wb ws Γ D X = wb Γ D fun e Γ1 => e.name = nm ∧ ws Γ1 D fun _ _ => False := rfl
end VL

set_option Elab.async false
set_option linter.all false
set_option maxRecDepth 100000
set_option pp.maxSteps 600
namespace SC
open PySem L2 VL
def NoLong (l : List Nat) : Prop := ∀ ys, ys <:+: l → (∀ k ∈ ys, 48 ≤ k ∧ k ≤ 57) → ys.length ≤ 9
def Asc (l : List Nat) : Prop := ∀ k ∈ l, k < 128
def NoLongW (l : List Nat) : Prop := ∀ ys, ys <:+: l → (∀ k ∈ ys, 48 ≤ k ∧ k ≤ 57) → ys.length ≤ 600
theorem NoLongW.infix {l m : List Nat} (h : NoLongW l) (i : m <:+: l) : NoLongW m := fun ys hy => h ys (hy.trans i)
theorem NoLong.w {l : List Nat} (h : NoLong l) : NoLongW l := fun ys hy hd => Nat.le_trans (h ys hy hd) (by decide)
def NoLS (l : List Nat) : Prop := NoLong l ∨ 42 ∉ l
theorem NoLS.infix {l m : List Nat} (h : NoLS l) (i : m <:+: l) : NoLS m := h.imp (fun h ys hy => h ys (hy.trans i)) fun h hm => h (i.subset hm)
theorem NoLong.infix {l m : List Nat} (h : NoLong l) (i : m <:+: l) : NoLong m := fun ys hy => h ys (hy.trans i)
theorem Asc.infix {l m : List Nat} (h : Asc l) (i : m <:+: l) : Asc m := fun k hk => h k (i.subset hk)
theorem dval_lt (l : List Nat) (h : ∀ k ∈ l, 48 ≤ k ∧ k ≤ 57) : NumText.digitsVal l < 10 ^ l.length := by
  suffices g : ∀ (r : List Nat), (∀ k ∈ r, 48 ≤ k ∧ k ≤ 57) → NumText.digitsVal r.reverse < 10 ^ r.length by
    have := g l.reverse fun k hk => h k (List.mem_reverse.mp hk)
    rw [List.reverse_reverse, List.length_reverse] at this
    exact this
  intro r
  induction r with
  | nil => intro _; decide
  | cons a r ih =>
    intro hr
    have h1 := ih fun k hk => hr k (List.mem_cons_of_mem _ hk)
    have h2 := hr a List.mem_cons_self
    rw [List.reverse_cons, NumText.digitsVal_snoc, List.length_cons, Nat.pow_succ]
    omega
theorem num_back {l : List Nat} (hd : ∀ k ∈ l, 48 ≤ k ∧ k ≤ 57) (hne : l ≠ []) (h0 : l.head? ≠ some 48 ∨ l = [48]) : TL.numL (NumText.digitsVal l) = l := by
  have e : Nat.toDigits 10 (NumText.digitsVal l) = l.map Char.ofNat := by
    cases l with
    | nil => exact absurd rfl hne
    | cons a r =>
      refine NumText.toDigits_digitsVal r.length (a :: r) rfl hd ?_
      rcases h0 with h0 | h0
      · refine .inr ⟨a, r, rfl, ?_⟩
        have h1 := hd a List.mem_cons_self
        have h2 : a ≠ 48 := fun z => h0 (by rw [z]; rfl)
        omega
      · injection h0 with _ h0
        exact .inl (by rw [h0]; rfl)
  unfold TL.numL
  rw [e, List.map_map]
  have : ∀ k ∈ l, (Char.toNat ∘ Char.ofNat) k = k := fun k hk => by
    have h1 := hd k hk
    have : ∀ k : Nat, k < 58 → (Char.ofNat k).toNat = k := by decide
    exact this k (by omega)
  rw [List.map_congr_left this, List.map_id']
theorem digits_of {x : Str} : (∀ k ∈ cs x, k ∈ ("0123456789" : Str).cps) ↔ ∀ k ∈ cs x, 48 ≤ k ∧ k ≤ 57 := by
  have ht := ten_digits
  refine ⟨fun h k hk => ?_, fun h k hk => ?_⟩
  · have := Array.mem_toList_iff.mpr (h k hk)
    rw [ht] at this
    simp at this
    omega
  · have := h k hk
    refine Array.mem_toList_iff.mp ?_
    rw [ht]
    simp
    omega
def fs_parse_integerX : FS := fun io ds Q _ => io = none ∧ ∃ x : Str, ds = [.str x] ∧ Asc (cs x) ∧ NoLongW (cs x) ∧ x.length ≤ 900000 ∧ (∀ n : Nat, cs x = TL.numL n → Q (.sh (.int (n : Int))) none) ∧ ((∀ n, cs x ≠ TL.numL n) → Q (.sh .none) none)
def w_parse_integerX : WS := wSeq (wIfS (wOr (wT (wOp oEq (wVar 0) (wC (.str "")))) (wNot (wT (wCB (o1 oAll) (wCons (wLc [1] (wiS (wVar 0)) (wgName 1) (wYes) (wOp (oIn false) (wVar 1) (wC (.str "0123456789")))) (wNil)))))) (wRet (wC .none)) (wNext)) (wRet (wIf (wAnd (wT (wOp oEq (wOp oIx (wVar 0) (wC (.int 0))) (wC (.str "0")))) (wT (wOp oNe (wVar 0) (wC (.str "0"))))) (wC .none) (wCB (o1 oIntS) (wCons (wVar 0) (wNil)))))
theorem fv_parse_integerX : FnV fs_parse_integerX 2 w_parse_integerX := by
  rintro io ds Q X ⟨rfl, x, rfl, ha, hn, hxl, q1, q2⟩
  show w_parse_integerX [.sh (.str x), .no] _ _
  have hso : SeqAt.shaped (.str x) = true := shaped_str (strOk_of ha)
  have s0 : SeqAt.shaped (.str "") = true := by decide +kernel
  have s48 : SeqAt.shaped (.str "0") = true := by decide +kernel
  by_cases hx0 : x = ""
  · subst hx0
    simp [w_parse_integerX, s0, eqv_str]
    exact q2 fun n h => TL.numL_ne n (h.symm.trans (by decide +kernel))
  · simp [w_parse_integerX, hso, s0, eqv_str, hx0]
    rw [ev_wLc]
    simp [okW, wipeE]
    have hsg : signsD x = (cs x).map fun c => PyData.str ⟨#[c]⟩ := rfl
    rw [hsg]
    have hl : (cs x).length ≤ 1000000 := by rw [cs_len]; omega
    refine lcm_map (cs x) (fun c => .str ⟨#[c]⟩) (fun c => .bool (decide (c ∈ ("0123456789" : Str).cps))) hl (fun k acc k2 hk hz h1 => ?_) ?_
    · simp [lcT, wipeE]
      exact ⟨hz, h1⟩
    · simp [restE]
      refine ⟨(cs x).map fun c => decide (c ∈ ("0123456789" : Str).cps), by rw [List.map_map]; rfl, ?_⟩
      by_cases hd : ∀ k ∈ cs x, 48 ≤ k ∧ k ≤ 57
      · have hall : ((cs x).map fun c => decide (c ∈ ("0123456789" : Str).cps)).all id = true := by
          rw [List.all_map, List.all_eq_true]
          intro k hk
          exact decide_eq_true (digits_of.mpr hd k hk)
        rw [hall]
        simp
        cases e : cs x with
        | nil => exact absurd (str_ext (x := x) (y := "") (by rw [e]; decide +kernel)) hx0
        | cons a r =>
          have ha1 := hd a (by rw [e]; exact List.mem_cons_self)
          refine ⟨smallE (by omega), ?_⟩
          have hat : atI x.cps.toList 0 = some a := by
            rw [show x.cps.toList = a :: r from e]
            simp [atI, ixN]
          rw [hat]
          have sa : SeqAt.shaped (.str (⟨#[a]⟩ : Str)) = true := shaped_str (strOk_of fun k hk => by
            have : k = a := by simpa [cs] using hk
            omega)
          have e0 : cs "0" = [48] := by decide +kernel
          have ea : ((⟨#[a]⟩ : Str) = "0") ↔ a = 48 := ⟨fun z => by
            have := congrArg cs z
            rw [e0] at this
            simpa [cs] using this, fun z => by subst z; exact str_ext (by rw [e0])⟩
          have ex : x = "0" ↔ a = 48 ∧ r = [] := ⟨fun z => by
            rw [z, e0] at e
            injection e with e1 e2
            exact ⟨e1.symm, e2.symm⟩, fun ⟨z1, z2⟩ => str_ext (by rw [e, e0, z1, z2])⟩
          have hlen : (cs x).length ≤ 600 := hn _ (List.infix_refl _) hd
          by_cases hz : a = 48 ∧ ¬ r = []
          · have h1 : (⟨#[a]⟩ : Str) = "0" := ea.mpr hz.1
            have h2 : ¬ x = "0" := fun z => hz.2 (ex.mp z).2
            simp [sa, s48, hso, eqv_str, h1, h2]
            refine q2 fun n h => ?_
            rw [e] at h
            have : n = 0 := by
              rcases Nat.eq_zero_or_pos n with z | z
              · exact z
              · exact absurd (by rw [← h, hz.1]; rfl) (num_head n z)
            rw [this, TL.numL_lt (by decide)] at h
            injection h with _ h
            exact hz.2 h
          · have hnb : TL.numL (NumText.digitsVal (cs x)) = cs x := num_back hd (by rw [e]; simp) (by
              rw [e]
              by_cases h48 : a = 48
              · right
                have : r = [] := Classical.byContradiction fun z => hz ⟨h48, z⟩
                rw [h48, this]
              · left
                simpa using h48)
            have hval : intText? x = some ((NumText.digitsVal (cs x) : Nat) : Int) := intText_digits hd (show cs x ≠ [] by rw [e]; simp) (by rw [← cs_len]; omega)
            have hq := q1 _ hnb.symm
            by_cases h48 : a = 48
            · have h1 : (⟨#[a]⟩ : Str) = "0" := ea.mpr h48
              have hr : r = [] := Classical.byContradiction fun z => hz ⟨h48, z⟩
              have h2 : x = "0" := ex.mpr ⟨h48, hr⟩
              simp [sa, s48, hso, eqv_str, h1, h2]
              rw [h2] at hval hq
              exact ⟨_, hval, by decide +kernel, hq⟩
            · have h1 : ¬ (⟨#[a]⟩ : Str) = "0" := fun z => h48 (ea.mp z)
              simp [sa, s48, hso, eqv_str, h1]
              exact ⟨_, hval, by rw [← cs_len]; omega, hq⟩
      · have hall : ((cs x).map fun c => decide (c ∈ ("0123456789" : Str).cps)).all id = false := by
          rw [List.all_map]
          cases z : (cs x).all (id ∘ fun c => decide (c ∈ ("0123456789" : Str).cps)) with
          | false => rfl
          | true =>
            refine absurd (digits_of.mp fun k hk => ?_) hd
            exact of_decide_eq_true (List.all_eq_true.mp z k hk)
        rw [hall]
        simp
        refine q2 fun n h => hd ?_
        rw [h]
        exact TL.numL_digits n
theorem ends_cs {y : Str} (h : Txt.endswith y ":" = true) : ∃ l, cs y = l ++ [58] := by
  have ec : (":" : Str).cps = #[58] := by decide +kernel
  have el : (":" : Str).length = 1 := col_len
  unfold Txt.endswith Builtin.Str.subAt at h
  rw [Bool.and_eq_true] at h
  have h2 := beq_iff_eq.mp h.2
  rw [ec, el] at h2
  have h3 := congrArg Array.toList h2
  rw [Array.toList_extract] at h3
  refine ⟨(cs y).take (y.length - 1), ?_⟩
  have h4 : (cs y).drop (y.length - 1) = [58] := by
    have h5 : ((cs y).drop (y.length - 1)).length ≤ 1 := by rw [List.length_drop, cs_len]; omega
    have h6 : ((cs y).drop (y.length - 1)).take 1 = [58] := by
      simpa [List.extract] using h3
    rwa [List.take_of_length_le h5] at h6
  rw [← h4, List.take_append_drop]
theorem ends_iff {y : Str} : Txt.endswith y ":" = true ↔ ∃ l, cs y = l ++ [58] := ⟨ends_cs, fun ⟨l, hl⟩ => by
  have e : y = SX.S l ++ ":" := str_ext (by rw [cs_app, hl]; rfl)
  rw [e]
  exact PySem.W.KT.ends_app (SX.S l) ":"⟩
theorem split42 {l : List Nat} (h : 42 ∈ l) : ∃ p q, l = p ++ ([42] ++ q) ∧ 42 ∉ p := by
  obtain ⟨p, q, e, hp⟩ := List.eq_append_cons_of_mem h
  exact ⟨p, q, by rw [e]; rfl, hp⟩
theorem part_some {x : Str} {p q : List Nat} (e : cs x = p ++ ([42] ++ q)) (hp : 42 ∉ p) : Txt.partition x "*" = (SX.S p, ("*" : Str), SX.S q) := by
  have h := SX.partition_some (a := p ++ ([42] ++ q)) (b := [42]) (by simp) (SX.par_head (sep := []) _ hp)
  rw [← e, S_cs] at h
  have e2 : SX.S [42] = ("*" : Str) := by decide +kernel
  rwa [e2] at h
theorem part_none {x : Str} (h : 42 ∉ cs x) : Txt.partition x "*" = (x, ("" : Str), ("" : Str)) := by
  have h := SX.partition_none (a := cs x) (b := [42]) (by simp) (SX.par_head_none (sep := []) h)
  rw [S_cs] at h
  have e2 : SX.S [42] = ("*" : Str) := by decide +kernel
  have e3 : SX.S [] = ("" : Str) := by decide +kernel
  rwa [e2, e3] at h
theorem cs_S (l : List Nat) : cs (SX.S l) = l := by simp [cs, SX.S]
theorem cs_rep (y : Str) (n : Nat) : cs (itS (.rep y (n : Int))) = cs y ++ ([42] ++ TL.numL n) := by
  show cs (Str.empty ++ y ++ "*" ++ dgt (n : Int)) = _
  rw [cs_app, cs_app, cs_app, List.append_assoc, dgt_nat]
  rfl
theorem cs_mark (y : Str) : cs (itS (.mark y)) = cs y ++ [58] := by
  show cs (Str.empty ++ y ++ ":") = _
  rw [cs_app, cs_app]
  rfl
theorem name_free {x : Str} {k : Nat} (hx : nameB x = true) (hk : letter k = false) : k ∉ cs x := fun hm => by
  have := not_name hm hk
  rw [hx] at this
  cases this
def fs_parse_itemX : FS := fun io ds Q _ => io = none ∧ ∃ (x : Str) (ps : List (D × D)) (ms : List Str), ds = [.str x, .dict ps] ∧ Asc (cs x) ∧ NoLS (cs x) ∧ x.length ≤ 900000 ∧ (∀ s, (dget ps (.str s)).isSome = true ↔ s ∈ ms) ∧ (∀ s ∈ ms, nameB s = true) ∧
  (∀ it : It, itS it = x → ok ms [it] → Q (.sh it.d) none) ∧ ((∀ it : It, itS it = x → ¬ ok ms [it]) → Q (.sh .none) none)
def w_parse_itemX : WS := wSeq (wIfS (wT (wCall fs_is_nameX [] (wCons (wVar 0) (wNil)))) (wRet (wTup (wCons (wC (.str "bar")) (wCons (wVar 0) (wNil))))) (wNext)) (wSeq (wIfS (wT (wM1 oEnds (wVar 0) (wC (.str ":")))) (wSeq (wSet 2 (wSlS (wVar 0) (wNoP) (wPart (wUn (fun a k => isI a fun i => k (.sh (.int (-i)))) (wC (.int 1)))))) (wRet (wIf (wAnd (wT (wCall fs_is_nameX [] (wCons (wVar 2) (wNil)))) (wT (wOp (oIn true) (wVar 2) (wVar 1)))) (wTup (wCons (wC (.str "mark")) (wCons (wVar 2) (wNil)))) (wC .none)))) (wNext)) (wSeq (wAsg (wM1 oPart (wVar 0) (wC (.str "*"))) (wgTup 3 (wgCons (wgName 2) (wgCons (wgName 3) (wgCons (wgName 4) (wgNil)))))) (wSeq (wSet 5 (wCall fs_parse_integerX [] (wCons (wVar 4) (wNil)))) (wSeq (wIfS (wOr (wT (wOp oEq (wVar 3) (wC (.str "")))) (wOr (wT (wOp (oIn true) (wVar 2) (wVar 1))) (wOr (wT (wOp oIsN (wVar 5) (wC .none))) (wT (wOp oEq (wVar 5) (wC (.int 0))))))) (wRet (wC .none)) (wNext)) (wRet (wTup (wCons (wC (.str "repeat")) (wCons (wVar 2) (wCons (wVar 5) (wNil))))))))))
theorem fv_parse_itemX : FnV fs_parse_itemX 6 w_parse_itemX := by
  rintro io ds Q X ⟨rfl, x, ps, ms, rfl, ha, hn, hxl, hM, hms, q1, q2⟩
  show w_parse_itemX [.sh (.str x), .sh (.dict ps), .no, .no, .no, .no] _ _
  have ns : ¬ ("*" : Str) = "" := by decide +kernel
  have hs1 : SeqAt.shaped (.str "*") = true := by decide +kernel
  have hs0 : SeqAt.shaped (.str "") = true := by decide +kernel
  have hget : ∀ s, dget ps (.str s) = none ↔ s ∉ ms := fun s => by
    rw [← hM s]
    cases dget ps (.str s) <;> simp
  simp [w_parse_itemX]
  refine ⟨rfl, _, rfl, fun s e => by cases e; exact Nat.le_trans hxl (by decide), ?_⟩
  have hnD : nameD (.str x) = nameB x := rfl
  rw [hnD]
  cases hb : nameB x with
  | true =>
    simp
    exact q1 (.bar x) rfl ⟨hb, trivial⟩
  | false =>
    simp [oEnds]
    cases he : Txt.endswith x ":" with
    | true =>
      obtain ⟨l, hl⟩ := ends_cs he
      have hsl : Txt.slice x none (some (-1)) = SX.S l := by
        have e := SX.butlast_snoc l 58
        rwa [← hl, S_cs] at e
      simp [hsl]
      refine ⟨smallE (by omega), rfl, _, rfl, fun s e => by
        cases e
        rw [← cs_len, cs_S]
        have := congrArg List.length hl
        rw [cs_len, List.length_append] at this
        have h2 : (900000 : Nat) ≤ sizeLine := by decide
        omega, ?_⟩
      have hnD2 : nameD (.str (SX.S l)) = nameB (SX.S l) := rfl
      rw [hnD2]
      have em : itS (.mark (SX.S l)) = x := str_ext (by rw [cs_mark, cs_S, hl])
      by_cases hv : nameB (SX.S l) = true ∧ SX.S l ∉ ms
      · have h3 := (hget (SX.S l)).mpr hv.2
        simp [hv.1, h3]
        exact q1 _ em ⟨hv.1, hv.2, trivial⟩
      · have hno : Q (.sh .none) none := q2 fun it hit hok => by
          cases it with
          | bar y =>
            have hy : nameB y = true := hok.1
            have : y = x := hit
            rw [this, hb] at hy
            cases hy
          | mark y =>
            have e1 : cs y ++ [58] = l ++ [58] := by rw [← cs_mark, hit, hl]
            have e2 := (List.append_inj_left' e1 rfl)
            have e3 : y = SX.S l := str_ext (e2.trans (cs_S l).symm)
            exact hv ⟨e3 ▸ hok.1, e3 ▸ hok.2.1⟩
          | rep y c =>
            obtain ⟨h1, _, ⟨h2, _⟩, _⟩ := hok
            obtain ⟨n, rfl⟩ : ∃ n : Nat, c = (n : Int) := ⟨c.toNat, by omega⟩
            have e1 : cs y ++ ([42] ++ TL.numL n) = l ++ [58] := by rw [← cs_rep, hit, hl]
            have e2 := congrArg List.getLast? e1
            have hne := TL.numL_ne n
            rw [← List.append_assoc, List.getLast?_append, List.getLast?_append] at e2
            cases hg : (TL.numL n).getLast? with
            | none => exact hne (List.getLast?_eq_none_iff.mp hg)
            | some v =>
              rw [hg] at e2
              simp at e2
              subst e2
              exact TL.numL_free (.inr (by decide)) (List.mem_of_getLast? hg)
        cases hn2 : nameB (SX.S l) with
        | false =>
          simp
          exact hno
        | true =>
          have h3 : ¬ dget ps (.str (SX.S l)) = none := fun z => hv ⟨hn2, (hget _).mp z⟩
          simp [h3]
          exact hno
    | false =>
      simp [oPart]
      refine ⟨by rw [star_len]; decide, smallE (by omega), ?_⟩
      by_cases h42 : 42 ∈ cs x
      · have hn : NoLong (cs x) := hn.resolve_right fun z => z h42
        obtain ⟨p, q, e, hp⟩ := split42 h42
        have hpt := part_some e hp
        simp [hpt]
        have hqi : q <:+: cs x := ⟨p ++ [42], [], by rw [e]; simp⟩
        refine ⟨rfl, _, rfl, by rw [cs_S]; exact ha.infix hqi, by rw [cs_S]; exact (hn.infix hqi).w, by
          rw [← cs_len, cs_S]
          have := congrArg List.length e
          rw [cs_len] at this
          simp at this
          omega, fun n hq => ?_, fun hq => ?_⟩
        · rw [cs_S] at hq
          have hlt : n < 1000000000 := by
            have h1 := hn.infix hqi _ (List.infix_refl _) (by rw [hq]; exact TL.numL_digits n)
            have h2 := dval_lt q (by rw [hq]; exact TL.numL_digits n)
            rw [hq, TL.numL_val, ← hq] at h2
            have h3 : 10 ^ q.length ≤ 10 ^ 9 := Nat.pow_le_pow_right (by decide) h1
            omega
          have erep : itS (.rep (SX.S p) (n : Int)) = x := str_ext (by rw [cs_rep, cs_S, e, hq])
          simp [hs1, hs0, eqv_str, ns]
          by_cases hv : SX.S p ∈ ms ∧ n ≠ 0
          · have h3 : ¬ dget ps (.str (SX.S p)) = none := fun z => (hget _).mp z hv.1
            have h4 : ¬ n = 0 := hv.2
            simp [h3, shaped_int, eqv_int, h4]
            exact q1 _ erep ⟨hms _ hv.1, hv.1, ⟨by omega, by omega⟩, trivial⟩
          · have hno : Q (.sh .none) none := q2 fun it hit hok => by
              cases it with
              | bar y =>
                have hy : nameB y = true := hok.1
                have : y = x := hit
                rw [this, hb] at hy
                cases hy
              | mark y =>
                have : Txt.endswith x ":" = true := ends_iff.mpr ⟨cs y, by rw [← hit, cs_mark]⟩
                rw [he] at this
                cases this
              | rep y c =>
                obtain ⟨h1, h5, ⟨h2, h6⟩, _⟩ := hok
                obtain ⟨m, rfl⟩ : ∃ m : Nat, c = (m : Int) := ⟨c.toNat, by omega⟩
                have e1 : cs y ++ ([42] ++ TL.numL m) = p ++ ([42] ++ q) := by rw [← cs_rep, hit, e]
                have hy42 : 42 ∉ cs y := name_free h1 (by decide +kernel)
                have e2 := part_some (x := x) (p := cs y) (q := TL.numL m) (by rw [← hit, cs_rep]) hy42
                rw [hpt] at e2
                have e3 : SX.S p = y := (congrArg Prod.fst e2).trans (S_cs y)
                have e4 : q = TL.numL m := SX.S_inj (congrArg (fun z => z.2.2) e2)
                have e5 : m = n := TL.numL_inj (by rw [← e4, hq])
                exact hv ⟨e3 ▸ h5, by omega⟩
            by_cases h3 : dget ps (.str (SX.S p)) = none
            · simp [h3]
              exact hno
            · have h4 : n = 0 := Classical.byContradiction fun z => hv ⟨Classical.byContradiction fun z2 => h3 ((hget _).mpr z2), z⟩
              simp [h3, shaped_int, eqv_int, h4]
              exact hno
        · have hno : Q (.sh .none) none := q2 fun it hit hok => by
            cases it with
            | bar y =>
              have hy : nameB y = true := hok.1
              have : y = x := hit
              rw [this, hb] at hy
              cases hy
            | mark y =>
              have : Txt.endswith x ":" = true := ends_iff.mpr ⟨cs y, by rw [← hit, cs_mark]⟩
              rw [he] at this
              cases this
            | rep y c =>
              obtain ⟨h1, h5, ⟨h2, h6⟩, _⟩ := hok
              obtain ⟨m, rfl⟩ : ∃ m : Nat, c = (m : Int) := ⟨c.toNat, by omega⟩
              have hy42 : 42 ∉ cs y := name_free h1 (by decide +kernel)
              have e2 := part_some (x := x) (p := cs y) (q := TL.numL m) (by rw [← hit, cs_rep]) hy42
              rw [hpt] at e2
              exact hq m (congrArg (fun z => cs z.2.2) e2 |>.trans (cs_S _))
          by_cases h3 : dget ps (.str (SX.S p)) = none
          · simp [hs1, hs0, eqv_str, ns, h3]
            exact hno
          · simp [hs1, hs0, eqv_str, ns, h3]
            exact hno
      · have hpt := part_none h42
        simp [hpt]
        have hc0 : cs "" = [] := by decide +kernel
        refine ⟨rfl, _, rfl, (by rw [hc0]; intro k hk; cases hk), (by rw [hc0]; intro ys hy _; rw [List.infix_nil.mp hy]; simp), by decide +kernel, fun n hq => absurd (hc0.symm.trans hq).symm (TL.numL_ne n), fun _ => ?_⟩
        simp [hs0, eqv_str]
        refine q2 fun it hit hok => ?_
        cases it with
        | bar y =>
          have hy : nameB y = true := hok.1
          have : y = x := hit
          rw [this, hb] at hy
          cases hy
        | mark y =>
          have : Txt.endswith x ":" = true := ends_iff.mpr ⟨cs y, by rw [← hit, cs_mark]⟩
          rw [he] at this
          cases this
        | rep y c =>
          obtain ⟨h1, h5, ⟨h2, h6⟩, _⟩ := hok
          obtain ⟨m, rfl⟩ : ∃ m : Nat, c = (m : Int) := ⟨c.toNat, by omega⟩
          exact h42 (by rw [← hit, cs_rep]; simp)
theorem join_infix {S : List Nat} : ∀ {ps : List (List Nat)} {p : List Nat}, p ∈ ps → p <:+: TL.joinL S ps
  | [q], p, h => by
    have : p = q := by simpa using h
    rw [this]
    exact List.infix_refl _
  | q :: r :: t, p, h => by
    show p <:+: q ++ (S ++ TL.joinL S (r :: t))
    rcases List.mem_cons.mp h with rfl | h
    · exact List.infix_append' [] p _
    · exact (join_infix (S := S) h).trans ⟨q ++ S, [], by simp⟩
theorem join_cnt : ∀ (ps : List (List Nat)), ps.length ≤ (TL.joinL [32] ps).count 32 + 1
  | [] => by simp
  | [p] => by simp
  | p :: q :: r => by
    have h := join_cnt (q :: r)
    show _ ≤ (p ++ ([32] ++ TL.joinL [32] (q :: r))).count 32 + 1
    simp only [List.count_append, List.length_cons] at h ⊢
    have : List.count 32 [32] = 1 := by decide
    omega
def wd (x : Str) : List Str := if x = "" then [] else Txt.split x " "
theorem wd_join (x : Str) : Txt.join " " (wd x) = x := by
  unfold wd
  split
  · rename_i h
    subst h
    decide +kernel
  · exact (TL.join_eq _ _).trans (StrLaws.join_split x " ")
theorem wd_cs (x : Str) : TL.joinL [32] ((wd x).map cs) = cs x := by
  have h := wd_join x
  have h2 : wd x = ((wd x).map cs).map SX.S := by
    rw [List.map_map]
    conv => lhs; rw [← List.map_id (wd x)]
    exact List.map_congr_left fun y _ => (S_cs y).symm
  have h3 : Txt.join (SX.S [32]) (((wd x).map cs).map SX.S) = x := by rw [← h2, sp_S]; exact h
  rw [SX.join_S] at h3
  have h4 := congrArg cs h3
  rwa [cs_S] at h4
theorem wd_infix {x y : Str} (h : y ∈ wd x) : cs y <:+: cs x := by
  rw [← wd_cs x]
  exact join_infix (List.mem_map_of_mem h)
theorem wd_len (x : Str) : (wd x).length ≤ (cs x).count 32 + 1 := by
  have := join_cnt ((wd x).map cs)
  rwa [wd_cs, List.length_map] at this
theorem ok_snoc {l : List It} {it : It} (h : ok [] l) (h2 : ok (mk [] l) [it]) : ok [] (l ++ [it]) := (ok_app l [it] []).mpr ⟨h, h2⟩
def BadAt (x : Str) (n : Nat) : Prop := ∃ (l : List It) (y : Str), l.map itS = (wd x).take n ∧ ok [] l ∧ (wd x)[n]? = some y ∧ ∀ it, itS it = y → ¬ ok (mk [] l) [it]
end SC

set_option Elab.async false
set_option linter.all false
set_option maxRecDepth 100000
set_option maxHeartbeats 2000000
namespace VL
open PySem PySem.Spec PyProof.Rows L2

def tIdx (K : Fg) (te : TE) : TE := fun σ H Q => te σ H fun x H1 => ∃ (a dx : Addr) (nm : Str) (v : V), x = .ref a ∧ OiF K nm ∧ H1 a = some (KpD (.ref (He.ga K nm)) (some dx) a) ∧ H1 dx = some (.xd [(("index" : Str), v)]) ∧ Q v H1
theorem pe_idx {X : Cx} {e : Expr} {te : TE} {pos : Pos} (he : PE X e te) (hb : attributeBase e "index" X.env (eval e X.env) = eval e X.env := by rfl) : PE X (.Attribute e "index" pos) (tIdx X.K te) := by
  refine ⟨fun pins s σ H Q I h => ?_⟩
  refine attr_of hb (thn (he.run pins s σ H _ I h) fun u s1 ⟨x, H1, I1, rx, a, dx, nm, v, ex, T, ha, hdx, q⟩ => ?_)
  subst ex
  obtain rfl : u = Value.ref a := rx
  obtain ⟨⟨oe, vs, h1, h2, h3⟩, _⟩ := (show ObjOk X.prog X.w H1 s1.heap a (KpD (.ref (He.ga X.K nm)) (some dx) a) from I1.hok a _ ha)
  obtain ⟨mA, hns, hr⟩ := (show ObjOk X.prog X.w H1 s1.heap dx (.xd [(("index" : Str), v)]) from I1.hok dx _ hdx)
  obtain ⟨o, ho, hl⟩ := lookIn_ns hns
  have l : List.lookup ("index" : Str) [(("index" : Str), v)] = some v := by simp [List.lookup]
  obtain ⟨w, hw, rw'⟩ := RelO.some_of (v := v) (o := mA "index") (by rw [← l]; exact hr "index")
  have J : PySem.W.InstAt s1.heap a oe (He.ga X.K nm) (some o) := ⟨h1, h2.1, by unfold PySem.W.notCls; rw [h3] <;> rfl, by rw [h2.2.1]; exact ho⟩
  exact HandSPX.exc_get I1.kIn J T.ga T.gg T.x.exC (PySem.W.findObj_own T.hd T.noN rfl (by rw [hl, hw])) (handed_of rw') ⟨v, H1, I1.tok _, rw', q⟩
def slIdx (zs : List Str) : Sl → (D → Prop) → Prop
  | .op t (.tuple [.str x, d]), k => t % 10 = 6 ∧ x ∈ zs ∧ k d
  | _, _ => False
theorem slIdx_inv {zs : List Str} {s : Sl} {k : D → Prop} (h : slIdx zs s k) : ∃ t x d, s = .op t (.tuple [.str x, d]) ∧ t % 10 = 6 ∧ x ∈ zs ∧ k d := by
  unfold slIdx at h
  split at h
  · exact ⟨_, _, _, rfl, h⟩
  · exact h.elim
def wIdx (zs : List Str) (i : Nat) : WE := fun Γ Q _ => match Γ[i]? with
  | some s => slIdx zs s fun d => Q (.sh d) Γ
  | none => False
section
variable {X : Cx} {G : Gb} {W : WX} {zs : List Str} {p pos : Pos}
theorem sim_idx (hO : OpLe G) (oi : ∀ nm ∈ zs, OiF G.K nm) (i : Nat) : SimE G W (tIdx G.K (tVar i)) (wIdx zs i) := by
  intro C Hi σ H Γ Q Qd Xd c hw hQ hX
  unfold wIdx at hw
  cases hs : Γ[i]? with
  | none => rw [hs] at hw; exact hw.elim
  | some s =>
    rw [hs] at hw
    obtain ⟨t, x, d, rfl, ht, hx, q⟩ := slIdx_inv hw
    · obtain ⟨fp, c0⟩ := id c
      obtain ⟨y, hy, a, rfl, okk, _⟩ := c0.sl i _ hs
      obtain ⟨_, nm, dx, v, dv, hd, _, ha, hdx, ix⟩ := op_kxi ht (hO okk)
      injection hd with hd
      injection hd with h1 hd
      injection h1 with h1
      injection hd with h2 _
      subst h1 h2
      refine ⟨_, hy, a, dx, _, v, rfl, oi _ hx, ha, c.imm _ _ hdx, hQ v (.sh _) H Hi Γ (Ext.refl _) ⟨c, ?_⟩ q⟩
      cases ix with
      | non => exact .non
      | int j => exact .int j
theorem de_idx {x : Str} (hK : X.K = G.K) (hO : OpLe G) (oi : ∀ nm ∈ zs, OiF G.K nm) (i : Nat) (hN : X.N[i]? = some x := by rfl) (hv : Vis X.env.scope x := by first | exact Or.inl rfl | exact Or.inr (Or.inl rfl) | exact Or.inr (Or.inr rfl)) (hd : (x == ("__debug__" : Str)) = false := by decide)
    (hcd : (x == ("__classdict__" : Str)) = false := by decide) (hb : attributeBase (.Name x p) "index" X.env (eval (.Name x p) X.env) = eval (.Name x p) X.env := by rfl) : DE X G W (.Attribute (.Name x p) "index" pos) (tIdx G.K (tVar i)) (wIdx zs i) :=
  ⟨by rw [← hK]; exact pe_idx (pe_var hN hv hd hcd) hb, sim_idx hO oi i⟩
end
@[simp ↓] theorem ev_wIdx (zs : List Str) (i : Nat) (Γ : Ev) (Q : R → Ev → Prop) (X : XW) : wIdx zs i Γ Q X = getS Γ i fun s => slIdx zs s fun d => Q (.sh d) Γ := by
  rw [getS_at]
  unfold wIdx
  cases Γ[i]? <;> rfl
@[simp ↓] theorem slIdx_op (zs : List Str) (t : Nat) (x : Str) (d : D) (k : D → Prop) : slIdx zs (.op t (.tuple [.str x, d])) k = (t % 10 = 6 ∧ x ∈ zs ∧ k d) := rfl
end VL

set_option Elab.async false
set_option linter.all false
set_option maxRecDepth 100000
namespace VL
open PySem L2

section
variable {K : Fg} {Hi H : Hp} {a : Addr} {u u' : HO} {kvs : List (Key × V)}
end
section
variable {G : Gb} {C : Cf} {Hi H : Hp} {σ : St} {Γ : Ev} {a : Addr} {u u' : HO} {kvs : List (Key × V)}
def swpC (C : Cf) (a : Addr) (o : HO) : Cf := ⟨swp C.H0 a o, swp C.I0 a o, C.io, fun b hb => by
  have := C.iot b hb
  by_cases z : b = a
  · subst z
    cases e : C.H0 b with
    | none => exact absurd e this
    | some v => rw [swp_at e]; simp
  · rw [swp_ne z]; exact this, C.pa⟩
theorem Core.swp {fp : Nat → List Addr} (c : Core G C Hi σ H Γ fp) (ha : Hi a = some u) (d : Dual kvs u u') : Core G (swpC C a u') (swp Hi a u') σ (swp H a u') Γ fp := by
  have hHa := c.imm _ _ ha
  have nfp : ∀ i, i < Γ.length → ∀ b ∈ fp i, b ≠ a := fun i hi b hb z => by
    have := c.av i b hi hb
    rw [z, ha] at this; cases this
  refine ⟨fun b o h n => ?_, fun b h => ?_, fun b o h => ?_, fun b o h => ?_, fun b o h => ?_, c.len, fun i s hs => ?_, c.dj, fun i b hi hb => ?_⟩
  · rcases swp_some h with ⟨rfl, rfl, _⟩ | ⟨z, h⟩
    · exact swp_at hHa
    · rw [swp_ne z]; exact c.frame b o h n
  · by_cases z : b = a
    · subst z; rw [swp_at hHa]; simp
    · rw [swp_ne z]
      refine c.live b fun e => h ?_
      show VL.swp C.H0 a u' b = none
      rw [swp_ne z]; exact e
  · rcases swp_some h with ⟨rfl, rfl, _⟩ | ⟨z, h⟩
    · exact swp_at hHa
    · rw [swp_ne z]; exact c.imm b o h
  · rcases swp_some h with ⟨rfl, rfl, _⟩ | ⟨z, h⟩
    · exact swp_at ha
    · rw [swp_ne z]; exact c.base b o h
  · rcases swp_some h with ⟨rfl, rfl, _⟩ | ⟨z, h⟩
    · rcases c.ov _ _ ha with q | q
      · exact .inl (swp_at q)
      · exact .inr (swp_none q)
    · rcases c.ov b o h with q | q
      · exact .inl (by show VL.swp C.I0 a u' b = _; rw [swp_ne z]; exact q)
      · exact .inr (by show VL.swp C.H0 a u' b = _; rw [swp_ne z]; exact q)
  · obtain ⟨x, hx, ok⟩ := c.sl i s hs
    have hi := (List.getElem?_eq_some_iff.mp hs).1
    have nf := nfp i hi
    refine ⟨x, hx, ?_⟩
    cases s with
    | no => exact ok
    | two _ _ => exact ok.elim
    | sh d' => obtain ⟨h0, v, h1, h2⟩ := ok; exact ⟨h0, v, h1, Rep.swp ha d h2⟩
    | ow d' =>
      obtain ⟨p, h0, h1, h2, h3⟩ := ok
      have zp : p ≠ a := nf p (by rw [h0]; simp)
      refine ⟨p, h0, h1, ?_, by show VL.swp C.H0 a u' p = _; rw [swp_ne zp]; exact h3⟩
      cases h2 with
      | lst g r => exact .lst (by rw [swp_ne zp]; exact g) (Reps.swp ha d r)
      | dct g r => exact .dct (by rw [swp_ne zp]; exact g) (RepKV.swp ha d r)
    | io d' =>
      obtain ⟨p, h0, h1, h2, h3⟩ := ok
      have zp : p ≠ a := nf p (by rw [h0]; simp)
      refine ⟨p, h0, h1, ?_, h3⟩
      cases h2 with
      | lst g r => exact .lst (by rw [swp_ne zp]; exact g) (Reps.swp ha d r)
      | dct g r => exact .dct (by rw [swp_ne zp]; exact g) (RepKV.swp ha d r)
    | op t d' =>
      obtain ⟨p, h1, h2, h3, h4⟩ := ok
      refine ⟨p, h1, G.Op.swp h2 ha d nf, fun b hb => ?_, h4⟩
      rcases h3 b hb with q | q
      · exact .inl (by show VL.swp C.H0 a u' b = _; rw [swp_ne (nf b hb)]; exact q)
      · exact .inr q
  · rw [swp_ne (nfp i hi b hb)]
    exact c.av i b hi hb
theorem Rel.swp (c : Rel G C Hi σ H Γ) (ha : Hi a = some u) (d : Dual kvs u u') : Rel G (swpC C a u') (swp Hi a u') σ (swp H a u') Γ :=
  let ⟨_, c⟩ := c
  ⟨_, c.swp ha d⟩
theorem swp2_none {H0 : Hp} {a b : Addr} {o o2 : HO} : VL.swp (VL.swp H0 a o) a o2 b = none ↔ H0 b = none := by
  by_cases z : b = a
  · subst z
    cases e : H0 b with
    | none => rw [swp_none (swp_none e)]
    | some v => rw [swp_at (swp_at e)]; simp
  · rw [swp_ne z, swp_ne z]
theorem swp2_some {H0 : Hp} {a b : Addr} {o o2 v : HO} (h : H0 b = some v) (e : b = a → v = o2) : VL.swp (VL.swp H0 a o) a o2 b = some v := by
  by_cases z : b = a
  · have ev := e z
    subst z
    rw [ev]
    exact swp_at (swp_at h)
  · rw [swp_ne z, swp_ne z]; exact h
theorem Core.unswp {fp : Nat → List Addr} (c : Core G (swpC C a u') Hi σ H Γ fp) (ha : Hi a = some u') (d : Dual kvs u' u) (f1 : ∀ o, C.H0 a = some o → ¬ C.io a → o = u) (f2 : ∀ o, C.I0 a = some o → o = u) (f3 : C.I0 a = some u ∨ C.H0 a = none) :
    Core G C (VL.swp Hi a u) σ (VL.swp H a u) Γ fp := by
  have c2 := c.swp ha d
  have hia : VL.swp Hi a u a = some u := swp_at ha
  refine ⟨fun b o h n => c2.frame b o (swp2_some h fun z => f1 o (z ▸ h) (z ▸ n)) n, fun b h => c2.live b fun z => h (swp2_none.mp z), c2.imm, fun b o h => c2.base b o (swp2_some h fun z => f2 o (z ▸ h)), fun b o h => ?_, c2.len, fun i s hs => ?_, c2.dj, c2.av⟩
  · by_cases z : b = a
    · subst z
      rw [hia] at h
      cases h
      exact f3
    · rcases c2.ov b o h with q | q
      · have q : VL.swp (VL.swp C.I0 a u') a u b = some o := q
        rw [swp_ne z, swp_ne z] at q
        exact .inl q
      · exact .inr (swp2_none.mp q)
  · obtain ⟨x, hx, ok⟩ := c2.sl i s hs
    refine ⟨x, hx, ?_⟩
    cases s with
    | no => exact ok
    | two _ _ => exact ok.elim
    | sh d' => exact ok
    | ow d' => obtain ⟨p, h0, h1, h2, h3⟩ := ok; exact ⟨p, h0, h1, h2, swp2_none.mp h3⟩
    | io d' => exact ok
    | op t d' =>
      obtain ⟨p, h1, h2, h3, h4⟩ := ok
      exact ⟨p, h1, h2, fun b hb => (h3 b hb).imp (fun q => swp2_none.mp q) id, h4⟩
end
section
variable {G : Gb} {W : WX} {g : TG} {wg : WG} {tb : TS} {wb : WS}
theorem Out.unswp {C : Cf} {Hi H : Hp} {σ : St} {Γ : Ev} {a : Addr} {u u' : HO} {kvs : List (Key × V)} {v : V} {r : R} (o : Out G (swpC C a u') Hi σ H Γ v r) (ha : Hi a = some u') (d : Dual kvs u' u) (f1 : ∀ o, C.H0 a = some o → ¬ C.io a → o = u) (f2 : ∀ o, C.I0 a = some o → o = u) (f3 : C.I0 a = some u ∨ C.H0 a = none) :
    Out G C (VL.swp Hi a u) σ (VL.swp H a u) Γ v r := by
  cases r with
  | sh d' => obtain ⟨⟨fp, c⟩, rp⟩ := o; exact ⟨⟨fp, c.unswp ha d f1 f2 f3⟩, Rep.swp ha d rp⟩
  | ow d' => obtain ⟨hl, fp, c⟩ := o; exact ⟨hl, fp, c.unswp ha d f1 f2 f3⟩
  | vr i => obtain ⟨⟨fp, c⟩, h⟩ := o; exact ⟨⟨fp, c.unswp ha d f1 f2 f3⟩, h⟩
  | op t d' => obtain ⟨hl, fp, c⟩ := o; exact ⟨hl, fp, c.unswp ha d f1 f2 f3⟩
end
section
variable {X : Cx} {G : Gb} {W : WX} {tg : Expr} {b1 : List Stmt} {g : TG} {wg : WG} {ts : TS} {ws : WS} {p pos : Pos}
end
end VL

set_option Elab.async false
set_option linter.all false
set_option maxRecDepth 100000
namespace VL
open PySem L2

section
variable {G : Gb} {W : WX} {g : TG} {wg : WG} {tt : TT} {wt : WT} {te : TE} {we : WE} {vs : List Nat}
end
section
variable {X : Cx} {G : Gb} {W : WX} {tg e : Expr} {ifs : List Expr} {scope : Scope} {own : List (Str × Nat)} {pos p : Pos} {g : TG} {wg : WG} {tt : TT} {wt : WT} {te : TE} {we : WE}
end
end VL

set_option Elab.async false
set_option linter.all false
set_option maxRecDepth 100000
namespace VL
open PySem L2

def shS : Sl → Sl
  | .sh d => .sh d
  | .ow d => .sh d
  | .io d => .sh d
  | _ => .no
def shE (Γ : Ev) : Ev := Γ.map shS
section
variable {G : Gb} {W : WX} {g : TG} {wg : WG} {tt : TT} {wt : WT} {te : TE} {we : WE} {vs : List Nat} {C : Cf} {Hi H : Hp} {σ : St} {Γ : Ev}
end
section
variable {X : Cx} {G : Gb} {W : WX} {tg e : Expr} {ifs : List Expr} {scope : Scope} {own : List (Str × Nat)} {pos p : Pos} {g : TG} {wg : WG} {tt : TT} {wt : WT} {te : TE} {we : WE}
end
end VL

set_option Elab.async false
set_option linter.all false
set_option maxRecDepth 100000
namespace VL
open PySem L2
def flatS : R → Prop
  | .sh d => flatD d = true
  | _ => False
def wFz (w : WE) : WE := fun Γ Q _ => w (shE Γ) (fun r _ => flatS r ∧ Q r Γ) fun _ _ => False
section
variable {G : Gb} {W : WX} {te : TE} {we : WE} {C : Cf} {Hi H H' HL : Hp} {σ : St} {Γ : Ev}
theorem Rel.frozen (c : Rel G C Hi σ H Γ) : Rel G ⟨H, H, fun _ => False, fun _ h => h.elim, fun _ => none⟩ H σ H (shE Γ) := by
  obtain ⟨fp, c1⟩ := id c
  refine ⟨fun _ => [], { frame := fun b o h _ => h, live := fun b h => h, imm := Ext.refl _, base := Ext.refl _, ov := fun b o h => .inl h, len := by rw [shE, List.length_map]; exact c.len, sl := fun j s hs => ?_, dj := fun j k b _ _ h => (nomatch h), av := fun j b _ h => (nomatch h) }⟩
  unfold shE at hs
  rw [List.getElem?_map] at hs
  cases e : Γ[j]? with
  | none => rw [e] at hs; cases hs
  | some s' =>
    rw [e] at hs
    cases hs
    have ownR : ∀ (p : Addr) (d : D), Own G.K Hi H p d → Rep G.K H (.ref p) d := fun p d ow => by
      cases ow with
      | lst h r => exact .lst h (r.mono c.imm)
      | dct h r => exact .dct (.inl h) (r.mono c.imm)
    obtain ⟨x, hx1, hok⟩ := c1.sl j _ e
    cases s' with
    | no => exact ⟨x, hx1, rfl⟩
    | sh d => obtain ⟨_, v, h1, h2⟩ := hok; exact ⟨x, hx1, rfl, v, h1, h2.mono c.imm⟩
    | ow d => obtain ⟨p, h0, h1, h2, _⟩ := hok; exact ⟨x, hx1, rfl, _, h1, ownR p d h2⟩
    | io d => obtain ⟨p, h0, h1, h2, _⟩ := hok; exact ⟨x, hx1, rfl, _, h1, ownR p d h2⟩
    | op t d => exact ⟨x, hx1, rfl⟩
    | two _ _ => exact hok.elim
theorem sim_fz (h : SimE G W te we) : SimE G W te (wFz we) := by
  intro C Hi σ H Γ Q Qd Xd c hw hQ hX
  refine h _ H σ H (shE Γ) Q _ _ c.frozen hw (fun v r H' Hi' Γ' e o q => ?_) fun x cl d H' Hi' Γ' e c' hx q => q.elim
  obtain ⟨f, q⟩ := q
  cases r with
  | sh d =>
    obtain ⟨c', rv⟩ := o
    obtain ⟨fp', c'⟩ := c'
    have k : Ext H H' := fun b o h => c'.frame b o h fun z => z
    exact hQ v (.sh d) H' Hi Γ (Ext.refl _) ⟨c.grow k (Ext.refl _) (c.imm.trans k) fun _ _ z => .inl z, rv.flat_any f⟩ q
  | ow d => exact f.elim
  | vr i => exact f.elim
  | op t d => exact f.elim
theorem de_fz {X : Cx} {e : Expr} (h : DE X G W e te we) : DE X G W e te (wFz we) := ⟨h.pe, sim_fz h.sim⟩
end
@[simp ↓] theorem ev_wFz (w : WE) (Γ : Ev) (Q : R → Ev → Prop) (X : XW) : wFz w Γ Q X = w (shE Γ) (fun r _ => flatS r ∧ Q r Γ) fun _ _ => False := rfl
@[simp] theorem flatS_bool (b : Bool) : flatS (.sh (.bool b)) = True := eq_true rfl
@[simp] theorem flatS_int (b : Int) : flatS (.sh (.int b)) = True := eq_true rfl
@[simp] theorem flatS_str (b : Str) : flatS (.sh (.str b)) = True := eq_true rfl
@[simp] theorem flatS_none : flatS (.sh .none) = True := eq_true rfl
@[simp ↓] theorem shE_nil : shE [] = [] := rfl
@[simp ↓] theorem shE_cons (s : Sl) (Γ : Ev) : shE (s :: Γ) = shS s :: shE Γ := rfl
@[simp ↓] theorem shS_sh (d : D) : shS (.sh d) = .sh d := rfl
@[simp ↓] theorem shS_ow (d : D) : shS (.ow d) = .sh d := rfl
@[simp ↓] theorem shS_io (d : D) : shS (.io d) = .sh d := rfl
@[simp ↓] theorem shS_no : shS .no = .no := rfl
@[simp ↓] theorem shS_op (t : Nat) (d : D) : shS (.op t d) = .no := rfl
end VL

set_option Elab.async false
set_option linter.all false
set_option maxRecDepth 100000
set_option maxHeartbeats 2000000
namespace VL
open PySem L2 PyProof.Rows
section
variable {P : Program} {w : World} {K : Fg} {mg mb : Str → Option Value}
theorem law_endsB {k : Nat} {fa a : Addr} {fd : FuncData} {y : Str} {s₁ : Shared} {vs : List Value} {ns : List Int}
    (KX : K.In s₁.heap) (hns : s₁.heap.Ns mainGlobals mg) (hb : s₁.heap.Ns builtinsNs mb) (hbb : ∀ x : Str, x ≠ "__name__" → mb x = bootBuiltins x) (hlim : s₁.heap.NoLimit) (hdig : s₁.heap.NoDigits) (hg : s₁.gens = #[])
    (ha : s₁.heap.get? a = some { cls := .type "list", data := .seq vs.toArray }) (hi : IntsAre vs ns) (hl : ns.length ≤ 63) (hr : Room k callerA)
    (F : ∀ base : Heap, K.In base → base.Ns mainGlobals mg → base.NoDigits → LawRuns P w K mg base k fa fd y) (hbind : ∀ (s : Shared) (u : Value), BindsTo s fd ⟨[u], []⟩ [(y, u)]) :
    codeAny (model P w) callerA (.call (.ref fa) ⟨[.ref a], []⟩) (fun r s' => r = .ok (.ret (.bool true)) ∧ OldK s₁.heap s'.heap ∧ s'.os = s₁.os ∧ AllBare s'.gens) s₁ := by
  have hlz : ns.length ≤ sizeLine := by rw [sizeLine_eq]; omega
  -- one road for both abstract heaps: H tracks the script, frozen, or nothing
  have road : ∀ H : Hp, (∀ b u, H b = some u → b = a ∧ K.lookup a = none ∧ u = .frz { cls := .type "list", data := .seq vs.toArray } (.lst (ns.map V.int))) → SqL K H a (ns.map V.int) →
      codeAny (model P w) callerA (.call (.ref fa) ⟨[.ref a], []⟩) (fun r s' => r = .ok (.ret (.bool true)) ∧ OldK s₁.heap s'.heap ∧ s'.os = s₁.os ∧ AllBare s'.gens) s₁ := by
    intro H hH hS
    have free : ∀ {b : Addr}, b ≠ a → H b = none := fun {b} hb => by
      cases q : H b with
      | none => rfl
      | some u => exact absurd (hH b u q).1 hb
    have hok : HOk P w H s₁.heap := fun b u q => by
      obtain ⟨rfl, _, rfl⟩ := hH b u q
      exact ⟨ha, by rw [List.length_map]; exact hlz, vs, _, vals_ints hi, ha⟩
    have nsK : ∀ {b : Addr} {m : Str → Option Value}, s₁.heap.Ns b m → (hidT s₁.heap H).Ns b m := fun {b m} ⟨o, es, ep, e, d, r⟩ =>
      ⟨o, es, ep, hidT_get e (free fun z => by
        rw [z, ha] at e
        cases e
        have d' : Data.seq vs.toArray _ = Data.dict es ep := d
        cases d'), d, r⟩
    have hKb : K.In (hidT s₁.heap H) := fun b o e => hidT_get (KX b o e) (by
      cases q : H b with
      | none => rfl
      | some u =>
        obtain ⟨rfl, hk, _⟩ := hH b u q
        rw [hk] at e; cases e)
    obtain ⟨mc, l1, l2⟩ := hlim
    obtain ⟨md, l3, l4⟩ := hdig
    have e0 : Env0 P w K mg (hidT s₁.heap H) callerA [] s₁ H :=
      ⟨rfl, ⟨hKb, nsK hns, ⟨mb, nsK hb, hbb⟩, ⟨mc, nsK l1, l2⟩⟩, fun b o e => of_hidT e, Nat.le_of_eq (hidT_size _ _), trivial, fun b hb => absurd (show b ∈ ([] : List Addr) from hb) (by simp), hok, .of_eq hg⟩
    refine codeAny_mono (F _ hKb (nsK hns) ⟨md, nsK l3, l4⟩ s₁ H ⟨[.ref a], []⟩ [.ref a] [.ref a] _ _ hr e0 (hbind s₁ (.ref a)) (.cons rfl .nil) (law_sp hl hS)) fun r s' h => ?_
    cases r with
    | error e =>
      obtain ⟨_, _, _, _, _, _, _, _, _, _, _, _, z⟩ := h
      exact z.elim
    | ok fl =>
      cases fl with
      | next => exact False.elim h
      | brk => exact False.elim h
      | cont => exact False.elim h
      | ret u =>
        obtain ⟨v, H', os, bare, un, hok', rv, q⟩ := h
        cases (show v = .bl true from q)
        cases (show u = Value.bool true from rv)
        refine ⟨rfl, OldK.of_keep fun b o e => ?_, os, bare⟩
        cases qb : H b with
        | none => exact un.keep b o e qb (by intro z; exact absurd (show b ∈ ([] : List Addr) from z) (by simp)) (by simp)
        | some u =>
          obtain ⟨rfl, _, rfl⟩ := hH b u qb
          obtain ⟨e1, _⟩ := hok b _ qb
          obtain ⟨e2, _⟩ := hok' b _ (un.frzs b _ _ qb)
          rw [e1] at e; cases e
          exact e2
  cases hk : K.lookup a with
  | some o =>
    have e := KX a o hk
    rw [ha] at e
    cases e
    exact road (fun _ => none) (fun b u z => by cases (show (none : Option HO) = some u from z)) (.inr ⟨_, vs.toArray, _, hk, rfl, rfl, rfl, by rw [List.size_toArray, hi.length]; exact hlz, by simpa using vals_ints hi⟩)
  | none =>
    refine road (fun b => if b = a then some (.frz { cls := .type "list", data := .seq vs.toArray } (.lst (ns.map V.int))) else none) (fun b u z => ?_) (.inl (.inr ⟨_, if_pos rfl⟩))
    by_cases hb : b = a
    · rw [if_pos hb] at z
      exact ⟨hb, hk, (Option.some.inj z).symm⟩
    · rw [if_neg hb] at z; cases z
end
theorem walk_lawB {l : PySem.W.OpenLaw} {k : Nat} {q : Program} {loose : List Str} {XP : (Str → Option Value) → Heap → Prop} {YP : World → Heap → Prop} {d : DefRec} {y : Str}
    (hn : l.most = some 63) (hdf : d.params.defaults = []) (hr : Room k callerA)
    (F : ∀ (w : World) (mg : Str → Option Value) (fa : Addr) (h : Heap), YP w h → h.Ns mainGlobals mg → mg d.name = some (.ref fa) →
      ∃ (K : Fg) (fd : FuncData), K.In h ∧ (∀ (s : Shared) (u : Value), BindsTo s fd ⟨[u], []⟩ [(y, u)]) ∧ ∀ base : Heap, K.In base → base.Ns mainGlobals mg → base.NoDigits → LawRuns l.prog w K mg base k fa fd y) :
    PySem.W.WalkO q loose XP YP l.row.toRowW d [] (fun f vs => PySem.call f vs) := by
  refine Att.attach_call hn hdf fun w s₀ s₁ mg mb fa o pm cd doc a vs ns G Y ho hd hcd hmg hobj hints hlen hg => ?_
  obtain ⟨K, fd, KX, hb, hF⟩ := F w mg fa _ Y G.T.g hmg
  exact law_endsB KX G.T.g G.T.b G.T.builtins G.T.nolimit G.T.nodigits hg hobj hints hlen hr hF hb
end VL

set_option Elab.async false
set_option linter.all false
set_option maxRecDepth 100000
set_option maxHeartbeats 0
namespace L2
open PySem PySem.Spec PyProof.Rows
end L2

set_option Elab.async false
set_option linter.all false
set_option maxRecDepth 100000
set_option pp.maxSteps 600
set_option maxHeartbeats 400000
namespace SC
open PySem L2 VL
theorem noLong_snoc {l : List Nat} {c : Nat} {a b : Int} (hs : ∀ ys, ys <:+ l → (∀ k ∈ ys, 48 ≤ k ∧ k ≤ 57) → (ys.length : Int) ≤ a) (hi : ∀ ys, ys <:+: l → (∀ k ∈ ys, 48 ≤ k ∧ k ≤ 57) → (ys.length : Int) ≤ b) :
    (∀ ys, ys <:+ l ++ [c] → (∀ k ∈ ys, 48 ≤ k ∧ k ≤ 57) → (ys.length : Int) ≤ if 48 ≤ c ∧ c ≤ 57 then a + 1 else 0) := by
  intro ys hy hd
  rcases List.suffix_concat_iff.mp hy with rfl | ⟨t, rfl, ht⟩
  · have := hs [] (List.nil_suffix) (by simp)
    simp at this
    simp
    split <;> omega
  · have hc := hd c (by simp)
    rw [if_pos hc]
    have := hs t ht fun k hk => hd k (by simp [hk])
    simp
    omega
theorem pickS {x : Str} {r : Int} {k : VL.R → Prop} (h0 : 0 ≤ r) (h : r < (x.length : Int)) (hl : x.length ≤ 1000000) (q : ∀ c, c ∈ cs x → k (.sh (.str ⟨#[c]⟩))) : oIx (.str x) (.int r) k := by
  refine ⟨smallE hl, ?_⟩
  have : atI x.cps.toList r = (cs x)[r.toNat]? := by
    unfold atI ixN
    have hl2 : ((x.cps.toList.length : Nat) : Int) = (x.length : Int) := by rw [show x.cps.toList.length = x.length from cs_len x]
    rw [if_pos h0, if_pos (by rw [hl2]; exact h)]
    rfl
  rw [this]
  have hlt : r.toNat < (cs x).length := by rw [cs_len]; omega
  rw [List.getElem?_eq_getElem hlt]
  exact q _ (List.getElem_mem hlt)
theorem bar_free {x : Str} (h : nameB x = true) : 42 ∉ cs x ∧ 58 ∉ cs x := ⟨name_free h (by decide +kernel), name_free h (by decide +kernel)⟩
theorem itS_inj {a b : SC.It} (ha : a.shows) (hb : b.shows) (e : itS a = itS b) : a = b := by
  have e1 := congrArg cs e
  have rp : ∀ (x : Str) (c : Int), (SC.It.rep x c).shows → ∃ n : Nat, c = (n : Int) ∧ cs (itS (.rep x c)) = cs x ++ ([42] ++ TL.numL n) ∧ 42 ∉ cs x := fun x c h => by
    obtain ⟨n, rfl⟩ : ∃ n : Nat, c = (n : Int) := ⟨c.toNat, by have := h.2.1; omega⟩
    exact ⟨n, rfl, cs_rep x n, (bar_free h.1).1⟩
  cases a with
  | bar x =>
    cases b with
    | bar y => exact congrArg SC.It.bar e
    | mark y =>
      rw [cs_mark] at e1
      exact absurd (show 58 ∈ cs x from by rw [show cs x = _ from e1]; simp) (bar_free ha).2
    | rep y c =>
      obtain ⟨n, rfl, h1, _⟩ := rp y c hb
      rw [h1] at e1
      exact absurd (show 42 ∈ cs x from by rw [show cs x = _ from e1]; simp) (bar_free ha).1
  | mark x =>
    rw [cs_mark] at e1
    cases b with
    | bar y => exact absurd (show 58 ∈ cs y from by rw [show cs y = _ from e1.symm]; simp) (bar_free hb).2
    | mark y =>
      rw [cs_mark] at e1
      exact congrArg SC.It.mark (str_ext (List.append_inj_left' e1 rfl))
    | rep y c =>
      obtain ⟨n, rfl, h1, _⟩ := rp y c hb
      rw [h1] at e1
      have h2 : 42 ∈ cs x ++ [58] := by rw [e1]; simp
      have h3 : 42 ∈ cs x := by simpa using h2
      exact absurd h3 (bar_free ha).1
  | rep x c =>
    obtain ⟨n, rfl, h1, h2⟩ := rp x c ha
    rw [h1] at e1
    cases b with
    | bar y => exact absurd (show 42 ∈ cs y from by rw [show cs y = _ from e1.symm]; simp) (bar_free hb).1
    | mark y =>
      rw [cs_mark] at e1
      have h4 : 42 ∈ cs y ++ [58] := by rw [← e1]; simp
      have h3 : 42 ∈ cs y := by simpa using h4
      exact absurd h3 (bar_free hb).1
    | rep y c =>
      obtain ⟨m, rfl, h3, h4⟩ := rp y c hb
      rw [h3] at e1
      have p1 := part_some h1 h2
      have p2 := part_some (x := itS (.rep x (n : Int))) (h1.trans e1) h4
      rw [p1] at p2
      have q1 : x = y := str_ext (SX.S_inj (congrArg Prod.fst p2))
      have q2 : n = m := TL.numL_inj (SX.S_inj (congrArg (fun z => z.2.2) p2))
      rw [q1, q2]
theorem map_inj {a b : List SC.It} : (∀ it ∈ a, it.shows) → (∀ it ∈ b, it.shows) → a.map itS = b.map itS → a = b := by
  induction a generalizing b with
  | nil => intro _ _ e; cases b with
    | nil => rfl
    | cons _ _ => cases e
  | cons x a ih =>
    intro ha hb e
    cases b with
    | nil => cases e
    | cons y b =>
      injection e with e1 e2
      rw [itS_inj (ha x List.mem_cons_self) (hb y List.mem_cons_self) e1, ih (fun it h => ha it (List.mem_cons_of_mem _ h)) (fun it h => hb it (List.mem_cons_of_mem _ h)) e2]
theorem fmt_inj {a b : List SC.It} (ha : ∀ it ∈ a, it.shows) (hb : ∀ it ∈ b, it.shows) : fmtS a = fmtS b ↔ a = b := by
  refine ⟨fun e => ?_, fun e => by rw [e]⟩
  by_cases h1 : a = []
  · by_cases h2 : b = []
    · rw [h1, h2]
    · rw [h1, fmt_nil] at e
      exact absurd e.symm (fmt_ne hb h2)
  · by_cases h2 : b = []
    · rw [h2, fmt_nil] at e
      exact absurd e (fmt_ne ha h1)
    · refine map_inj ha hb ?_
      rw [← fmt_split ha h1, ← fmt_split hb h2, e]
theorem join_cnt_le : ∀ (ps : List (List Nat)), (∀ p ∈ ps, 32 ∉ p) → (TL.joinL [32] ps).count 32 ≤ ps.length
  | [], _ => by simp [TL.joinL]
  | [p], h => by
    show p.count 32 ≤ 1
    rw [List.count_eq_zero.mpr (h p List.mem_cons_self)]
    omega
  | p :: q :: r, h => by
    have ih := join_cnt_le (q :: r) fun x hx => h x (List.mem_cons_of_mem _ hx)
    show (p ++ ([32] ++ TL.joinL [32] (q :: r))).count 32 ≤ _
    rw [List.count_append, List.count_append, List.count_eq_zero.mpr (h p List.mem_cons_self)]
    have : List.count 32 [32] = 1 := by decide
    simp only [List.length_cons] at ih ⊢
    omega
theorem fmt_cnt {l : List SC.It} (h : ∀ it ∈ l, it.shows) : (cs (fmtS l)).count 32 ≤ l.length := by
  rw [fmt_cs]
  have := join_cnt_le (l.map fun it => cs (itS it)) fun p hp => by
    obtain ⟨it, hi, rfl⟩ := List.mem_map.mp hp
    exact itS_free (h it hi)
  rwa [List.length_map] at this
theorem fmt_asc {l : List SC.It} (h : ∀ it ∈ l, it.shows) : Asc (cs (fmtS l)) := fun k hk => by
  rw [fmt_cs] at hk
  rcases join_mem hk with z | ⟨p, hp, z⟩
  · simp at z; omega
  · obtain ⟨it, hi, rfl⟩ := List.mem_map.mp hp
    exact itS_lt (h it hi) k z
theorem fmt_len2 {l : List SC.It} (h : ∀ it ∈ l, it.shows) : (fmtS l).length ≤ 3001 * l.length := by
  rw [← cs_len, fmt_cs]
  have := join_len (S := [32]) (b := 3000) (ps := l.map fun it => cs (itS it)) fun p hp => by
    obtain ⟨it, hi, rfl⟩ := List.mem_map.mp hp
    rw [cs_len]
    exact itS_len (h it hi)
  rwa [List.length_map] at this
theorem infix_sep {s : Nat} {b ys : List Nat} (hs : s ∉ ys) : ∀ {a : List Nat}, ys <:+: a ++ ([s] ++ b) → ys <:+: a ∨ ys <:+: b
  | [], h => by
    rcases List.infix_cons_iff.mp (show ys <:+: s :: b from h) with h | h
    · cases ys with
      | nil => exact .inl (List.infix_refl _)
      | cons y ys =>
        obtain ⟨t, ht⟩ := h
        injection ht with e _
        exact absurd (by rw [e]; exact List.mem_cons_self) hs
    · exact .inr h
  | x :: a, h => by
    rcases List.infix_cons_iff.mp (show ys <:+: x :: (a ++ ([s] ++ b)) from h) with h | h
    · have h2 : (x :: a) <+: x :: (a ++ ([s] ++ b)) := ⟨[s] ++ b, rfl⟩
      rcases List.prefix_or_prefix_of_prefix h h2 with h3 | ⟨t, h3⟩
      · exact .inl h3.isInfix
      · subst h3
        cases t with
        | nil => exact .inl (by rw [List.append_nil]; exact List.infix_refl _)
        | cons z t =>
          obtain ⟨u, hu⟩ := h
          have : x :: a ++ (z :: t ++ u) = x :: a ++ (s :: b) := by simpa using hu
          have := List.append_cancel_left this
          injection this with e _
          exact absurd (by rw [e]; simp) hs
    · rcases infix_sep hs h with h | h
      · exact .inl (h.trans (List.suffix_cons x a).isInfix)
      · exact .inr h
theorem noLong_sep {s : Nat} {a b : List Nat} (hs : ¬ (48 ≤ s ∧ s ≤ 57)) (ha : NoLong a) (hb : NoLong b) : NoLong (a ++ ([s] ++ b)) := fun ys hy hd => by
  rcases infix_sep (fun hm => hs (hd s hm)) hy with h | h
  · exact ha ys h hd
  · exact hb ys h hd
theorem noLong_join : ∀ {ps : List (List Nat)}, (∀ p ∈ ps, NoLong p) → NoLong (TL.joinL [32] ps)
  | [], _ => fun ys hy _ => by rw [List.infix_nil.mp hy]; simp
  | [p], h => h p List.mem_cons_self
  | p :: q :: r, h => noLong_sep (by decide) (h p List.mem_cons_self) (noLong_join fun x hx => h x (List.mem_cons_of_mem _ hx))
theorem noLong_name {x : Str} (h : nameB x = true) : NoLong (cs x) := fun ys hy hd => by
  cases ys with
  | nil => simp
  | cons k ys =>
    have h1 := hd k List.mem_cons_self
    have h2 : letter k = false := by
      have : ∀ k : Nat, k < 58 → 48 ≤ k → letter k = false := by decide +kernel
      exact this k (by omega) h1.1
    exact absurd (hy.subset List.mem_cons_self) (name_free h h2)
theorem noLong_num {n : Nat} (h : n < 1000000000) : NoLong (TL.numL n) := fun ys hy _ => Nat.le_trans hy.length_le (TL.numL_len (k := 9) (by decide) h)
theorem noLong_fmt {l : List SC.It} (h : ∀ it ∈ l, it.shows) (hc : ∀ x c, SC.It.rep x c ∈ l → c ≤ 999999999) : NoLong (cs (fmtS l)) := by
  rw [fmt_cs]
  refine noLong_join fun p hp => ?_
  obtain ⟨it, hi, rfl⟩ := List.mem_map.mp hp
  have hsh := h it hi
  have nl0 : NoLong [] := fun ys hy _ => by rw [List.infix_nil.mp hy]; simp
  cases it with
  | bar x => exact noLong_name hsh
  | mark x =>
    rw [cs_mark]
    exact noLong_sep (b := []) (by decide) (noLong_name hsh) nl0
  | rep x c =>
    have := hc x c hi
    obtain ⟨n, rfl⟩ : ∃ n : Nat, c = (n : Int) := ⟨c.toNat, by have := hsh.2.1; omega⟩
    rw [cs_rep]
    exact noLong_sep (by decide) (noLong_name hsh.1) (noLong_num (by omega))
def fs_law_notation : FS := fun io ds Q _ => io = none ∧ ∃ l : List SC.It, ds = [.list (sc l)] ∧ ok [] l ∧ l.length ≤ 290 ∧ Q (.sh (.str (fmtS l))) none
def w_law_notation : WS := wSeq (wSet 1 (wLst (wNil))) (wSeq (wFor (wiL (wVar 0)) (wgName 2) (wSeq (wSet 3 (wIf (wT (wOp oEq (wOp oIx (wVar 2) (wC (.int 0))) (wC (.str "mark")))) (wC (.str ":")) (wIf (wT (wOp oEq (wOp oIx (wVar 2) (wC (.int 0))) (wC (.str "repeat")))) (wOp oAdd (wC (.str "*")) (wCB (o1 oStrI) (wCons (wOp oIx (wVar 2) (wC (.int 2))) (wNil)))) (wC (.str ""))))) (wDrop (wMut 1 fAppend (wCons (wOp oAdd (wOp oIx (wVar 2) (wC (.int 1))) (wVar 3)) wNil))))) (wRet (wM1 oJoin (wC (.str " ")) (wVar 1))))
theorem bar_e (x : Str) : x ++ "" = itS (.bar x) := by
  show x ++ "" = x
  exact str_ext (by rw [cs_app]; simp [show cs "" = [] by decide +kernel])
theorem mark_e (x : Str) : x ++ ":" = itS (.mark x) := by
  show x ++ ":" = Str.empty ++ x ++ ":"
  exact str_ext (by rw [cs_app, cs_app, cs_app]; rfl)
theorem rep_e (x : Str) (c : Int) : x ++ ("*" ++ dgt c) = itS (.rep x c) := by
  show _ = Str.empty ++ x ++ "*" ++ dgt c
  exact str_ext (by rw [cs_app, cs_app, cs_app, cs_app, cs_app, List.append_assoc]; rfl)
theorem fv_law_notation : FnV fs_law_notation 4 w_law_notation := by
  rintro io ds Q X ⟨rfl, l, rfl, h, hl, q⟩
  show w_law_notation [.sh (.list (sc l)), .no, .no, .no] _ _
  simp [w_law_notation, ev_wFor]
  refine loop_inv (fun i Γ => ∃ (a2 a3 : Sl), Γ = [.sh (.list (sc l)), .ow (.list ((l.take i).map fun it => .str (itS it))), a2, a3]) ⟨_, _, rfl⟩ ?_ ?_
  · rintro i d Γ k hd ⟨a2, a3, rfl⟩ hk
    have hd2 : ∃ it, l[i]? = some it ∧ d = it.d := by
      unfold sc at hd
      rw [List.getElem?_map] at hd
      cases z : l[i]? with
      | none => simp [z] at hd
      | some it => exact ⟨it, rfl, by simpa [z] using hd.symm⟩
    obtain ⟨it, hit, rfl⟩ := hd2
    have hi := (List.getElem?_eq_some_iff.mp hit).1
    have hsh := ok_shows h it (List.mem_of_getElem? hit)
    have hil := itS_len hsh
    have htk : (l.take (i + 1)).map (fun it => PyData.str (itS it)) = (l.take i).map (fun it => PyData.str (itS it)) ++ [.str (itS it)] := by
      rw [List.take_succ, hit]
      simp
    have hz : min i l.length < sizeLine := small (by omega)
    have e : ∀ s, s = itS it → s.length ≤ sizeLine := fun s z => by rw [z]; exact smallE (by omega)
    have hk2 := fun a2 a3 => hk _ ⟨a2, a3, by rw [htk]⟩
    cases it with
    | bar x =>
      simp [It.d, sh_bar, sh_mark, sh_rep, eqv_str, bm, bb, br]
      rw [bar_e]
      rw [← List.map_take]
      exact ⟨e _ rfl, hz, hk2 _ _⟩
    | mark x =>
      simp [It.d, sh_mark, eqv_str, mm]
      have em := e _ (mark_e x)
      rw [app_len] at em
      rw [mark_e]
      rw [← List.map_take]
      exact ⟨em, hz, hk2 _ _⟩
    | rep x c =>
      obtain ⟨hx, c1, c2⟩ := id hsh
      simp [It.d, oStrI, sh_rep, sh_mark, eqv_str, rm]
      have er := e _ (rep_e x c)
      rw [app_len, app_len] at er
      rw [← List.map_take]
      refine ⟨Nat.lt_of_lt_of_le (PySem.Flt.log2_lt_of (k := 31) (by decide) (by omega)) (by decide), ?_, ?_, hz, ?_⟩
      · have er2 : x.length + (("*" : Str).length + (Str.ofString c.repr).length) ≤ sizeLine := er
        omega
      · have er2 : x.length + (("*" : Str).length + (Str.ofString c.repr).length) ≤ sizeLine := er
        rw [app_len]
        exact er2
      · have := hk2 (.sh (It.rep x c).d) (.sh (.str ("*" ++ dgt c)))
        rw [← rep_e] at this
        exact this
  · rintro Γ ⟨a2, a3, rfl⟩
    have e : l.map (fun it => PyData.str (itS it)) = (l.map itS).map .str := by rw [List.map_map]; rfl
    simp [sc_length]
    rw [e]
    refine ⟨l.map itS, rfl, ?_, ?_⟩
    · have hs : ∀ l' : List SC.It, (∀ it ∈ l', it.shows) → ((l'.map itS).map (·.length)).sum ≤ 3000 * l'.length := fun l' => by
        induction l' with
        | nil => intro _; simp
        | cons a l' ih =>
          intro hh
          have h1 := ih fun it hi => hh it (List.mem_cons_of_mem _ hi)
          have h2 := itS_len (hh a List.mem_cons_self)
          simp only [List.map_cons, List.sum_cons, List.length_cons]
          omega
      have h1 := hs l (ok_shows h)
      have h2 : (" " : Str).length = 1 := by decide +kernel
      rw [h2, List.length_map]
      omega
    · simp
      exact q
end SC

set_option Elab.async false
set_option linter.all false
set_option maxRecDepth 100000
set_option maxHeartbeats 2000000
namespace VL
open PySem PySem.Spec PyProof.Rows L2

section
variable {K : Fg} {Hi H : Hp}
theorem Fds.names : ∀ {sp : List (Str × Bool)} {fs : List (Str × V)} {ds : List D} {l : List Addr}, Fds K Hi H sp fs ds l → ∀ f ∈ fs.map (·.1), f ∈ sp.map (·.1)
  | _, _, _, _, .nil, f, h => nomatch h
  | _, _, _, _, .sh (f := g) _ t, f, h => by
    rcases List.mem_cons.mp h with rfl | h
    · exact List.mem_cons_self
    · exact List.mem_cons_of_mem _ (Fds.names t f h)
  | _, _, _, _, .ow (f := g) _ _ t, f, h => by
    rcases List.mem_cons.mp h with rfl | h
    · exact List.mem_cons_self
    · exact List.mem_cons_of_mem _ (Fds.names t f h)
theorem Fds.len : ∀ {sp : List (Str × Bool)} {fs : List (Str × V)} {ds : List D} {l : List Addr}, Fds K Hi H sp fs ds l → fs.length = ds.length ∧ ds.length ≤ sp.length
  | _, _, _, _, .nil => ⟨rfl, Nat.zero_le _⟩
  | _, _, _, _, .sh _ t => ⟨congrArg (· + 1) (Fds.len t).1, Nat.succ_le_succ (Fds.len t).2⟩
  | _, _, _, _, .ow _ _ t => ⟨congrArg (· + 1) (Fds.len t).1, Nat.succ_le_succ (Fds.len t).2⟩
theorem lookup_cons {f g : Str} {v : V} {fs : List (Str × V)} : List.lookup f ((g, v) :: fs) = if f = g then some v else fs.lookup f := by
  rw [List.lookup_cons]
  by_cases h : f = g
  · subst h; simp
  · have : (f == g) = false := by simpa using h
    rw [this, if_neg h]
theorem Fds.none {f : Str} : ∀ {fs : List (Str × V)}, f ∉ fs.map (·.1) → fs.lookup f = Option.none
  | [], _ => rfl
  | (g, v) :: fs, h => by
    rw [lookup_cons, if_neg (fun z => h (by rw [z]; exact List.mem_cons_self))]
    exact Fds.none fun z => h (List.mem_cons_of_mem _ z)
theorem Fds.get : ∀ {sp : List (Str × Bool)} {fs : List (Str × V)} {ds : List D} {l : List Addr}, Fds K Hi H sp fs ds l → (sp.map (·.1)).Nodup → ∀ {k : Nat} {f : Str} {d : D}, sp[k]? = some (f, false) → ds[k]? = some d → ∃ v, fs.lookup f = some v ∧ Rep K Hi v d
  | _, _, _, _, .nil, _, k, f, d, _, h => by simp at h
  | _, _, _, _, .sh (f := g) (sp := sp0) r t, nd, 0, f, d, h1, h2 => by
    simp at h1 h2
    subst h1 h2
    exact ⟨_, by rw [lookup_cons, if_pos rfl], r⟩
  | _, _, _, _, .sh (f := g) (sp := sp0) r t, nd, k + 1, f, d, h1, h2 => by
    obtain ⟨n1, n2⟩ := List.nodup_cons.mp nd
    have h1' : sp0[k]? = some (f, false) := by simpa using h1
    obtain ⟨v, e, rv⟩ := Fds.get t n2 (k := k) h1' (by simpa using h2)
    refine ⟨v, ?_, rv⟩
    rw [lookup_cons, if_neg]
    · exact e
    · rintro rfl
      exact n1 (List.mem_map.mpr ⟨_, List.mem_of_getElem? h1', rfl⟩)
  | _, _, _, _, .ow (f := g) (sp := sp0) _ _ t, nd, 0, f, d, h1, h2 => by simp at h1
  | _, _, _, _, .ow (f := g) (sp := sp0) _ _ t, nd, k + 1, f, d, h1, h2 => by
    obtain ⟨n1, n2⟩ := List.nodup_cons.mp nd
    have h1' : sp0[k]? = some (f, false) := by simpa using h1
    obtain ⟨v, e, rv⟩ := Fds.get t n2 (k := k) h1' (by simpa using h2)
    refine ⟨v, ?_, rv⟩
    rw [lookup_cons, if_neg]
    · exact e
    · rintro rfl
      exact n1 (List.mem_map.mpr ⟨_, List.mem_of_getElem? h1', rfl⟩)
theorem Fds.gow : ∀ {sp : List (Str × Bool)} {fs : List (Str × V)} {ds : List D} {l : List Addr}, Fds K Hi H sp fs ds l → (sp.map (·.1)).Nodup → ∀ {k : Nat} {f : Str} {d : D}, sp[k]? = some (f, true) → ds[k]? = some d → ∃ q, fs.lookup f = some (.ref q) ∧ Own K Hi H q d ∧ q ∈ l
  | _, _, _, _, .nil, _, k, f, d, _, h => by simp at h
  | _, _, _, _, .ow (f := g) (sp := sp0) o n t, nd, 0, f, d, h1, h2 => by
    simp at h1 h2
    subst h1 h2
    exact ⟨_, by rw [lookup_cons, if_pos rfl], o, List.mem_cons_self⟩
  | _, _, _, _, .ow (f := g) (sp := sp0) o n t, nd, k + 1, f, d, h1, h2 => by
    obtain ⟨n1, n2⟩ := List.nodup_cons.mp nd
    have h1' : sp0[k]? = some (f, true) := by simpa using h1
    obtain ⟨v, e, rv, hm⟩ := Fds.gow t n2 (k := k) h1' (by simpa using h2)
    refine ⟨v, ?_, rv, List.mem_cons_of_mem _ hm⟩
    rw [lookup_cons, if_neg]
    · exact e
    · rintro rfl
      exact n1 (List.mem_map.mpr ⟨_, List.mem_of_getElem? h1', rfl⟩)
  | _, _, _, _, .sh (f := g) (sp := sp0) _ t, nd, 0, f, d, h1, h2 => by simp at h1
  | _, _, _, _, .sh (f := g) (sp := sp0) _ t, nd, k + 1, f, d, h1, h2 => by
    obtain ⟨n1, n2⟩ := List.nodup_cons.mp nd
    have h1' : sp0[k]? = some (f, true) := by simpa using h1
    obtain ⟨v, e, rv, hm⟩ := Fds.gow t n2 (k := k) h1' (by simpa using h2)
    refine ⟨v, ?_, rv, hm⟩
    rw [lookup_cons, if_neg]
    · exact e
    · rintro rfl
      exact n1 (List.mem_map.mpr ⟨_, List.mem_of_getElem? h1', rfl⟩)
def putK (ds : List D) (k : Nat) (d : D) : List D := if k < ds.length then ds.set k d else ds ++ [d]
theorem putK_s (x : D) (ds : List D) (k : Nat) (d : D) : putK (x :: ds) (k + 1) d = x :: putK ds k d := by
  unfold putK
  by_cases h : k < ds.length
  · rw [if_pos h, if_pos (by simp; omega)]; rfl
  · rw [if_neg h, if_neg (by simp; omega)]; rfl
theorem Fds.put : ∀ {sp : List (Str × Bool)} {fs : List (Str × V)} {ds : List D} {l : List Addr}, Fds K Hi H sp fs ds l → (sp.map (·.1)).Nodup → ∀ {k : Nat} {f : Str} {d : D} {v : V}, sp[k]? = some (f, false) → k ≤ ds.length → Rep K Hi v d → Fds K Hi H sp (putF f v fs) (putK ds k d) l
  | sp, _, _, _, .nil, nd, k, f, d, v, h1, h2, r => by
    have : k = 0 := by simpa using h2
    subst this
    cases sp with
    | nil => simp at h1
    | cons x sp =>
      simp at h1
      subst h1
      exact .sh r .nil
  | _, _, _, _, .sh (f := g) (sp := sp0) r0 t, nd, 0, f, d, v, h1, h2, r => by
    simp at h1
    subst h1
    show Fds K Hi H _ (if g = g then _ else _) _ _
    rw [if_pos rfl]
    exact .sh r t
  | _, _, _, _, .sh (f := g) (sp := sp0) (v := v0) (fs := fs) r0 t, nd, k + 1, f, d, v, h1, h2, r => by
    obtain ⟨n1, n2⟩ := List.nodup_cons.mp nd
    have h1' : sp0[k]? = some (f, false) := by simpa using h1
    have ih := Fds.put t n2 (k := k) (d := d) (v := v) h1' (by simpa using h2) r
    rw [putK_s]
    show Fds K Hi H _ (if g = f then (g, v) :: fs else (g, v0) :: putF f v fs) _ _
    rw [if_neg]
    · exact .sh r0 ih
    · rintro rfl
      exact n1 (List.mem_map.mpr ⟨_, List.mem_of_getElem? h1', rfl⟩)
  | _, _, _, _, .ow (f := g) (sp := sp0) _ _ t, nd, 0, f, d, v, h1, h2, r => by simp at h1
  | _, _, _, _, .ow (f := g) (sp := sp0) (q := q0) (fs := fs) o n t, nd, k + 1, f, d, v, h1, h2, r => by
    obtain ⟨n1, n2⟩ := List.nodup_cons.mp nd
    have h1' : sp0[k]? = some (f, false) := by simpa using h1
    have ih := Fds.put t n2 (k := k) (d := d) (v := v) h1' (by simpa using h2) r
    rw [putK_s]
    show Fds K Hi H _ (if g = f then (g, v) :: fs else (g, V.ref q0) :: putF f v fs) _ _
    rw [if_neg]
    · exact .ow o n ih
    · rintro rfl
      exact n1 (List.mem_map.mpr ⟨_, List.mem_of_getElem? h1', rfl⟩)
end
end VL

set_option Elab.async false
set_option linter.all false
set_option maxRecDepth 100000
set_option maxHeartbeats 2000000
namespace VL
open PySem PySem.Spec PyProof.Rows L2

theorem Fds.upd {K : Fg} {Hi H : Hp} {q : Addr} {o : HO} {d' : D} : ∀ {sp : List (Str × Bool)} {fs : List (Str × V)} {ds : List D} {l : List Addr}, Fds K Hi H sp fs ds l → (sp.map (·.1)).Nodup → ∀ {k : Nat} {f : Str} {d : D}, sp[k]? = some (f, true) → ds[k]? = some d → fs.lookup f = some (.ref q) →
    Own K Hi (L2.upd H q o) q d' → Fds K Hi (L2.upd H q o) sp fs (ds.set k d') l
  | _, _, _, _, .nil, _, k, f, d, _, h, _, _ => by simp at h
  | _, _, _, _, .sh (f := g) (sp := sp0) r t, nd, 0, f, d, h1, _, _, _ => by simp at h1
  | _, _, _, _, .sh (f := g) (sp := sp0) (fs := fs) (v := v) r t, nd, k + 1, f, d, h1, h2, h3, ow1 => by
    obtain ⟨n1, n2⟩ := List.nodup_cons.mp nd
    have h1' : sp0[k]? = some (f, true) := by simpa using h1
    have ne : f ≠ g := by
      rintro rfl
      exact n1 (List.mem_map.mpr ⟨_, List.mem_of_getElem? h1', rfl⟩)
    rw [lookup_cons, if_neg ne] at h3
    exact .sh r (Fds.upd t n2 (k := k) h1' (by simpa using h2) h3 ow1)
  | _, _, _, _, .ow (f := g) (sp := sp0) (q := q0) (l := l) o1 n t, nd, 0, f, d, h1, h2, h3, ow1 => by
    simp at h1
    subst h1
    rw [lookup_cons, if_pos rfl] at h3
    have e : q0 = q := by
      injection h3 with h3
      injection h3
    subst e
    exact .ow ow1 n (t.to (Ext.refl _) fun a ha => upd_ne fun z => n (by rw [← z]; exact ha))
  | _, _, _, _, .ow (f := g) (sp := sp0) (fs := fs) (q := q0) (l := l) o1 n t, nd, k + 1, f, d, h1, h2, h3, ow1 => by
    obtain ⟨n1, n2⟩ := List.nodup_cons.mp nd
    have h1' : sp0[k]? = some (f, true) := by simpa using h1
    have ne : f ≠ g := by
      rintro rfl
      exact n1 (List.mem_map.mpr ⟨_, List.mem_of_getElem? h1', rfl⟩)
    rw [lookup_cons, if_neg ne] at h3
    obtain ⟨q1, e1, _, hm⟩ := t.gow n2 h1' (by simpa using h2)
    have e : q1 = q := by
      rw [h3] at e1
      injection e1 with e1
      injection e1 with e1
      exact e1.symm
    subst e
    have nq : q0 ≠ q1 := fun z => n (by rw [z]; exact hm)
    exact .ow (o1.to (Ext.refl _) (upd_ne nq)) n (Fds.upd t n2 (k := k) h1' (by simpa using h2) h3 ow1)

section
variable {G : Gb} {W : WX} {C : Cf} {Hi H : Hp} {σ : St} {Γ : Ev} {X : Cx}
def slFld (t k : Nat) : Sl → (D → Prop) → Prop
  | .op u (.tuple ds), q => u % 10 = t ∧ (match ds[k]? with
    | some d => q d
    | none => False)
  | _, _ => False
def wFld (i t k : Nat) : WE := fun Γ Q _ => match Γ[i]? with
  | some s => slFld t k s fun d => Q (.sh d) Γ
  | none => False
def slPut (Γ : Ev) (i t k : Nat) (d : D) (q : Ev → Prop) : Sl → Prop
  | .op u (.tuple ds) => u % 10 = t ∧ k ≤ ds.length ∧ q (Γ.set i (.op u (.tuple (putK ds k d))))
  | _ => False
def wFldSet (i t k : Nat) (we : WE) : WS := fun Γ D X => we Γ (fun r Γ1 => frW r Γ1 fun d Γ2 => match Γ2[i]? with
  | some s => slPut Γ2 i t k d D.nx s
  | none => False) X
def wFldSetO (i t k : Nat) (we : WE) : WS := fun Γ D X => we Γ (fun r Γ1 => match r with
  | .ow d => match Γ1[i]? with
    | some s => slPut Γ1 i t k d D.nx s
    | none => False
  | _ => False) X
end
end VL

set_option Elab.async false
set_option linter.all false
set_option maxRecDepth 100000
set_option maxHeartbeats 2000000
namespace VL
open PySem PySem.Spec PyProof.Rows L2

def slOwF (Γ : Ev) (i t k : Nat) (q : D → (D → Ev) → Prop) : Sl → Prop
  | .op u (.tuple ds) => u % 10 = t ∧ (match ds[k]? with
    | some d => q d fun d' => Γ.set i (.op u (.tuple (ds.set k d')))
    | none => False)
  | _ => False
def owF (i t k : Nat) (Γ : Ev) (q : D → (D → Ev) → Prop) : Prop := match Γ[i]? with
  | some s => slOwF Γ i t k q s
  | none => False
section
variable {G : Gb} {W : WX} {C : Cf} {Hi H : Hp} {σ : St} {Γ : Ev} {X : Cx}
def wFCb (i t k : Nat) (o : OpN) : WE := fun Γ Q _ => owF i t k Γ fun d _ => o [d] fun r => Q r Γ
def wFOp2 (i t k : Nat) (o : Op2) (wa : WE) : WE := fun Γ Q X => wa Γ (fun ra Γ1 => owF i t k Γ1 fun b _ => rdW ra Γ1 fun a => o a b fun r => Q r Γ1) X
def wFOp1 (i t k : Nat) (o : Op2) (wb : WE) : WE := fun Γ Q _ => owF i t k Γ fun d _ => wb (shE Γ) (fun rb _ => ∃ b, rb = .sh b ∧ flatD b = true ∧ o d b fun r => Q r Γ) fun _ _ => False
def wFApp (i t k : Nat) (wa : WA) : WE := fun Γ Q _ => owF i t k Γ fun d g => isL d fun l => wa (shE Γ) (fun rs _ => ∃ ds, rs = ds.map .sh ∧ ds.all flatD = true ∧ ds.length ≤ 1000 ∧ l.length < sizeLine ∧ Q (.sh .none) (g (.list (l ++ [.tuple ds])))) fun _ _ => False
def wFPut (i t k : Nat) (wk wv : WE) : WS := fun Γ D X => wv Γ (fun rv Γ1 => frW rv Γ1 fun dv Γ2 => owF i t k Γ2 fun d g => isD d fun ps => wk (shE Γ2) (fun rk _ => ∃ b, rk = .sh b ∧ flatD b = true ∧ isK b (ps.length < sizeLine ∧ D.nx (g (.dict (dput ps b dv))))) fun _ _ => False) X
def wFPop (i t k : Nat) (wk : WE) : WE := fun Γ Q _ => owF i t k Γ fun d g => isD d fun ps => wk (shE Γ) (fun rk _ => ∃ b, rk = .sh b ∧ flatD b = true ∧ isK b (match dget ps b with
  | some v => Q (.sh v) (g (.dict (ddrop ps b)))
  | none => False)) fun _ _ => False
end
end VL

set_option Elab.async false
set_option linter.all false
set_option maxRecDepth 100000
set_option maxHeartbeats 2000000
namespace VL
open PySem PySem.Spec PyProof.Rows L2

section
variable {X : Cx} {CX : CXT} {k : Nat} {f C : Addr} {fd : FuncData} {ps : List Str} {sp : Sp} {dvs : List V} {ds : List Value} {E : St → XK} {x m : Str} {p pos apos : Pos} {e o : Expr} {es : List Expr} {ta : TE} {t : TA}
end

def GdMt (P : Program) (wd : World) (G : Gb) (mg : Str → Option Value) (base : Heap) (k t : Nat) (m : Str) (fs : FS) (ps : List Str) (dvs : List V) : Prop :=
  Cls G.K (He.ga G.K (clsN t)) ∧ m ∉ (spec t).map (·.1) ∧ ∃ (f : Addr) (fd : FuncData), Meth G.K (He.ga G.K (clsN t)) m f ∧ FnOk P wd G.K mg base (L2N.CX P wd) k f fd ps (lift G fs) ∧ ∃ ds, Vals dvs ds ∧ Binds G.K fd ps ds
theorem GdMt.mono {P : Program} {wd : World} {G : Gb} {mg : Str → Option Value} {base : Heap} {k k' t : Nat} {m : Str} {fs : FS} {ps : List Str} {dvs : List V} (h : GdMt P wd G mg base k t m fs ps dvs) (l : k ≤ k') : GdMt P wd G mg base k' t m fs ps dvs :=
  let ⟨h1, h2, f, fd, h3, h4, h5⟩ := h
  ⟨h1, h2, f, fd, h3, h4.mono l, h5⟩
def GdMk (P : Program) (wd : World) (G : Gb) (mg : Str → Option Value) (base : Heap) (k t : Nat) (fs : FS) (ps : List Str) (dvs : List V) : Prop :=
  Cls G.K (He.ga G.K (clsN t)) ∧ (∀ f ∈ (spec t).map (·.1), NoAttr G.K (He.ga G.K (clsN t)) f) ∧ mg (clsN t) = some (.ref (He.ga G.K (clsN t))) ∧ ∃ (f : Addr) (fd : FuncData), Mk G.K (He.ga G.K (clsN t)) f ∧ FnOk P wd G.K mg base (L2N.CX P wd) k f fd ps (lift G fs) ∧ ∃ ds, Vals dvs ds ∧ Binds G.K fd ps ds
theorem GdMk.mono {P : Program} {wd : World} {G : Gb} {mg : Str → Option Value} {base : Heap} {k k' t : Nat} {fs : FS} {ps : List Str} {dvs : List V} (h : GdMk P wd G mg base k t fs ps dvs) (l : k ≤ k') : GdMk P wd G mg base k' t fs ps dvs :=
  let ⟨h1, h2, h0, f, fd, h3, h4, h5⟩ := h
  ⟨h1, h2, h0, f, fd, h3, h4.mono l, h5⟩
def slT (t : Nat) : Sl → Prop
  | .op u _ => u % 10 = t
  | _ => False
def wMeth (t : Nat) (fs : FS) (i : Nat) (dv : List D) (wa : WA) : WE := fun Γ Q X => (match Γ[i]? with
  | some s => slT t s
  | none => False) ∧ wCallIo fs i dv wa Γ Q X
def wMake (t : Nat) (fs : FS) (dv : List D) (wa : WA) : WE := fun Γ Q X => wa Γ (fun rs Γ1 => frAll rs Γ1 fun ds Γ2 => fs (some (.op t (.tuple []))) (ds ++ dv) (fun r io => r = .sh .none ∧ ∃ d, io = some (.op t d) ∧ Q (.op (t + 10) d) Γ2) fun x _ => X x Γ2) X
section
variable {G : Gb} {W : WX} {X : Cx} {dvs : List V} {dvd : List D} {fs : FS} {m x : Str} {ta : TA} {wa : WA} {k : Nat} {ps : List Str} {e : Expr} {es : List Expr} {p pos apos : Pos}
end
end VL

set_option Elab.async false
set_option linter.all false
set_option maxRecDepth 100000
set_option maxHeartbeats 2000000
namespace VL
open PySem PySem.Spec PyProof.Rows L2

section
variable {G : Gb} {W : WX} {X : Cx} {k : Nat} {m x y f : Str} {e a b : Expr} {es : List Expr} {te ta tb : TE} {we wa wb : WE} {p p' pos apos p2 spos : Pos} {t' : TA} {w' : WA}
def wFAug (i t k : Nat) (g : Int → Int → Int) (we : WE) : WS := fun Γ D _ => match Γ[i]? with
  | some s => slFld t k s fun d => isI d fun n => we (shE Γ) (fun r _ => ∃ d, r = .sh d ∧ flatD d = true ∧ ∃ m, d = .int m ∧ slPut Γ i t k (.int (g n m)) D.nx s) fun _ _ => False
  | none => False
end
def GdMtK (P : Program) (wd : World) (G : Gb) (mg : Str → Option Value) (base : Heap) (k t : Nat) (m : Str) (fs : FS) (ps : List Str) (kw : Str) : Prop :=
  Cls G.K (He.ga G.K (clsN t)) ∧ m ∉ (spec t).map (·.1) ∧ ps.length = 2 ∧ ∃ (f : Addr) (fd : FuncData), Meth G.K (He.ga G.K (clsN t)) m f ∧ FnOk P wd G.K mg base (L2N.CX P wd) k f fd ps (lift G fs) ∧ ∀ (s : Shared) (us ws : List Value), us.length = 1 → ws.length = 1 → BindsTo s fd ⟨us, [kw].zip ws⟩ (ps.zip (reord [0, 1] (us ++ ws)))
theorem GdMtK.mono {P : Program} {wd : World} {G : Gb} {mg : Str → Option Value} {base : Heap} {k k' t : Nat} {m : Str} {fs : FS} {ps : List Str} {kw : Str} (h : GdMtK P wd G mg base k t m fs ps kw) (l : k ≤ k') : GdMtK P wd G mg base k' t m fs ps kw :=
  let ⟨h1, h2, h0, f, fd, h3, h4, h5⟩ := h
  ⟨h1, h2, h0, f, fd, h3, h4.mono l, h5⟩
section
variable {G : Gb} {W : WX} {X : Cx} {k : Nat} {m y kw : Str} {e : Expr} {te : TE} {we : WE} {p pos apos kpos : Pos} {fs : FS} {ps : List Str}
end
@[simp ↓] theorem slFld_op (t k u : Nat) (ds : List D) (q : D → Prop) : slFld t k (.op u (.tuple ds)) q = (u % 10 = t ∧ (match ds[k]? with
  | some d => q d
  | none => False)) := rfl
@[simp ↓] theorem ev_wFld (i t k : Nat) (Γ : Ev) (Q : R → Ev → Prop) (X : XW) : wFld i t k Γ Q X = getS Γ i fun s => slFld t k s fun d => Q (.sh d) Γ := by rw [getS_at] <;> rfl
@[simp ↓] theorem slPut_op (Γ : Ev) (i t k u : Nat) (ds : List D) (d : D) (q : Ev → Prop) : slPut Γ i t k d q (.op u (.tuple ds)) = (u % 10 = t ∧ k ≤ ds.length ∧ q (Γ.set i (.op u (.tuple (putK ds k d))))) := rfl
@[simp ↓] theorem ev_wFldSet (i t k : Nat) (we : WE) (Γ : Ev) (D : WD) (X : XW) : wFldSet i t k we Γ D X = we Γ (fun r Γ1 => frW r Γ1 fun d Γ2 => getS Γ2 i fun s => slPut Γ2 i t k d D.nx s) X := by simp only [getS_at] <;> rfl
def owR : R → (D → Prop) → Prop
  | .ow d, k => k d
  | _, _ => False
@[simp ↓] theorem owR_ow (d : D) (k : D → Prop) : owR (.ow d) k = k d := rfl
@[simp ↓] theorem ev_wFldSetO (i t k : Nat) (we : WE) (Γ : Ev) (D : WD) (X : XW) : wFldSetO i t k we Γ D X = we Γ (fun r Γ1 => owR r fun d => getS Γ1 i fun s => slPut Γ1 i t k d D.nx s) X := by
  unfold wFldSetO
  congr 1
  funext r Γ1
  cases r <;> simp only [owR, getS_at] <;> rfl
@[simp ↓] theorem ev_wFAug (i t k : Nat) (g : Int → Int → Int) (we : WE) (Γ : Ev) (D : WD) (X : XW) : wFAug i t k g we Γ D X = getS Γ i fun s => slFld t k s fun d => isI d fun n => we (shE Γ) (fun r _ => ∃ d, r = .sh d ∧ flatD d = true ∧ ∃ m, d = .int m ∧ slPut Γ i t k (.int (g n m)) D.nx s) fun _ _ => False := by rw [getS_at] <;> rfl
@[simp ↓] theorem slOwF_op (Γ : Ev) (i t k u : Nat) (ds : List D) (q : D → (D → Ev) → Prop) : slOwF Γ i t k q (.op u (.tuple ds)) = (u % 10 = t ∧ (match ds[k]? with
  | some d => q d fun d' => Γ.set i (.op u (.tuple (ds.set k d')))
  | none => False)) := rfl
@[simp ↓] theorem ev_owF (i t k : Nat) (Γ : Ev) (q : D → (D → Ev) → Prop) : owF i t k Γ q = getS Γ i fun s => slOwF Γ i t k q s := by rw [getS_at] <;> rfl
@[simp ↓] theorem ev_wFCb (i t k : Nat) (o : OpN) (Γ : Ev) (Q : R → Ev → Prop) (X : XW) : wFCb i t k o Γ Q X = owF i t k Γ fun d _ => o [d] fun r => Q r Γ := rfl
@[simp ↓] theorem ev_wFOp2 (i t k : Nat) (o : Op2) (wa : WE) (Γ : Ev) (Q : R → Ev → Prop) (X : XW) : wFOp2 i t k o wa Γ Q X = wa Γ (fun ra Γ1 => owF i t k Γ1 fun b _ => rdW ra Γ1 fun a => o a b fun r => Q r Γ1) X := rfl
@[simp ↓] theorem ev_wFOp1 (i t k : Nat) (o : Op2) (wb : WE) (Γ : Ev) (Q : R → Ev → Prop) (X : XW) : wFOp1 i t k o wb Γ Q X = owF i t k Γ fun d _ => wb (shE Γ) (fun rb _ => ∃ b, rb = .sh b ∧ flatD b = true ∧ o d b fun r => Q r Γ) fun _ _ => False := rfl
@[simp ↓] theorem ev_wFApp (i t k : Nat) (wa : WA) (Γ : Ev) (Q : R → Ev → Prop) (X : XW) : wFApp i t k wa Γ Q X = owF i t k Γ fun d g => isL d fun l => wa (shE Γ) (fun rs _ => ∃ ds, rs = ds.map .sh ∧ ds.all flatD = true ∧ ds.length ≤ 1000 ∧ l.length < sizeLine ∧ Q (.sh .none) (g (.list (l ++ [.tuple ds])))) fun _ _ => False := rfl
@[simp ↓] theorem ev_wFPut (i t k : Nat) (wk wv : WE) (Γ : Ev) (D : WD) (X : XW) : wFPut i t k wk wv Γ D X = wv Γ (fun rv Γ1 => frW rv Γ1 fun dv Γ2 => owF i t k Γ2 fun d g => isD d fun ps => wk (shE Γ2) (fun rk _ => ∃ b, rk = .sh b ∧ flatD b = true ∧ isK b (ps.length < sizeLine ∧ D.nx (g (.dict (dput ps b dv))))) fun _ _ => False) X := rfl
@[simp ↓] theorem ev_wFPop (i t k : Nat) (wk : WE) (Γ : Ev) (Q : R → Ev → Prop) (X : XW) : wFPop i t k wk Γ Q X = owF i t k Γ fun d g => isD d fun ps => wk (shE Γ) (fun rk _ => ∃ b, rk = .sh b ∧ flatD b = true ∧ isK b (match dget ps b with
  | some v => Q (.sh v) (g (.dict (ddrop ps b)))
  | none => False)) fun _ _ => False := rfl
@[simp ↓] theorem slT_op (t u : Nat) (d : D) : slT t (.op u d) = (u % 10 = t) := rfl
@[simp ↓] theorem ev_wMeth (t : Nat) (fs : FS) (i : Nat) (dv : List D) (wa : WA) (Γ : Ev) (Q : R → Ev → Prop) (X : XW) : wMeth t fs i dv wa Γ Q X = (getS Γ i (slT t) ∧ wCallIo fs i dv wa Γ Q X) := by rw [getS_at] <;> rfl
@[simp ↓] theorem ev_wMake (t : Nat) (fs : FS) (dv : List D) (wa : WA) (Γ : Ev) (Q : R → Ev → Prop) (X : XW) : wMake t fs dv wa Γ Q X = wa Γ (fun rs Γ1 => frAll rs Γ1 fun ds Γ2 => fs (some (.op t (.tuple []))) (ds ++ dv) (fun r io => r = .sh .none ∧ ∃ d, io = some (.op t d) ∧ Q (.op (t + 10) d) Γ2) fun x _ => X x Γ2) X := rfl
end VL

set_option Elab.async false
set_option linter.all false
set_option maxRecDepth 100000
namespace VL
open PySem PySem.Spec PyProof.Rows L2
end VL
namespace VL
open PySem L2
theorem ioAt_ca {K : Fg} {Op : OpSem} {ca ca' : Str → Addr} {Hi H : Hp} {io : Option Sl} {pre : List V} {fp : List Addr} (h : IoAt ⟨K, Op, ca⟩ Hi H io pre fp) : IoAt ⟨K, Op, ca'⟩ Hi H io pre fp := by
  cases io with
  | none => exact h
  | some s => cases s <;> exact h
theorem law_ca {K : Fg} {ca ca' : Str → Addr} {vs : List V} {H : Hp} {Q : VK} {E : XK} (h : lift ⟨K, OpS K, ca⟩ fsLaw vs H Q E) : lift ⟨K, OpS K, ca'⟩ fsLaw vs H Q E := by
  obtain ⟨io, ds, Hi, Qd, Xd, pre, post, fp, h1, h2, h3, h4, h5, h6, h7, _⟩ := h
  refine ⟨io, ds, Hi, Qd, fun _ _ => False, pre, post, fp, h1, ioAt_ca h2, h3, h4, h5, h6, fun v r H' Hi' io' fp' L ra q => h7 v r H' Hi' io' fp' ⟨L.e, L.imm, L.ov, L.keep, L.live, ioAt_ca L.at_, L.cells⟩ ?_ q, fun _ _ _ _ _ _ _ _ _ z => z.elim⟩
  cases r <;> exact ra
end VL

set_option Elab.async false
set_option linter.all false
set_option maxRecDepth 100000
set_option maxHeartbeats 1000000
namespace VL
open PySem PySem.Spec PyProof.Rows L2
structure TabF (K : Fg) (w : World) (mg : Str → Option Value) (nm : Str) (tb : List (Str × Str)) : Prop where
  glo : mg nm = some (.ref (He.ga K nm))
  kd : ∃ es n, KDict K w (He.ga K nm) es n
  ok : tabB K (He.ga K nm) tb = true
def wTab (tb : List (Str × Str)) (we : WE) : WE := fun Γ Q X => we Γ (fun r Γ1 => rdW r Γ1 fun d => isS d fun z => Q (.sh (match tb.lookup z with
  | some v => .str v
  | none => .none)) Γ1) X
@[simp ↓] theorem ev_wTab (tb : List (Str × Str)) (we : WE) (Γ : Ev) (Q : R → Ev → Prop) (X : XW) : wTab tb we Γ Q X = we Γ (fun r Γ1 => rdW r Γ1 fun d => isS d fun z => Q (.sh (match tb.lookup z with
  | some v => .str v
  | none => .none)) Γ1) X := rfl
section
variable {G : Gb} {W : WX} {X : Cx} {nm : Str} {e : Expr} {te : TE} {we : WE} {p pos apos : Pos} {tb : List (Str × Str)}
def fRev : OpM := fun l ds k => match ds with
  | [] => k l.reverse .none
  | _ => False
@[simp ↓] theorem ev_fRev (l : List D) (k : List D → D → Prop) : fRev l [] k = k l.reverse .none := rfl
end
def slShD : Sl → (D → Prop) → Prop
  | .sh d, k => k d
  | _, _ => False
def wCallNew (fs : FS) (we : WE) (i : Nat) : WE := fun Γ Q X => we Γ (fun r Γ1 => match r with
  | .op u d => match Γ1[i]? with
    | some s => slShD s fun a => fs (some (.op (u % 10) d)) [a] (fun r' io => SameIo (some (.op (u % 10) d)) io ∧ ∃ d', r' = .sh d' ∧ Q (.sh d') Γ1) fun x io => SameIo (some (.op (u % 10) d)) io ∧ X x Γ1
    | none => False
  | _ => False) X
section
variable {G : Gb} {W : WX} {X : Cx} {x y : Str} {e : Expr} {te : TE} {we : WE} {p p2 pos : Pos} {fs : FS} {ps : List Str} {k : Nat}
end
def opR : R → (Nat → D → Prop) → Prop
  | .op u d, k => k u d
  | _, _ => False
@[simp ↓] theorem opR_op (u : Nat) (d : D) (k : Nat → D → Prop) : opR (.op u d) k = k u d := rfl
@[simp ↓] theorem slShD_sh (d : D) (k : D → Prop) : slShD (.sh d) k = k d := rfl
@[simp ↓] theorem ev_wCallNew (fs : FS) (we : WE) (i : Nat) (Γ : Ev) (Q : R → Ev → Prop) (X : XW) : wCallNew fs we i Γ Q X = we Γ (fun r Γ1 => opR r fun u d => getS Γ1 i fun s => slShD s fun a => fs (some (.op (u % 10) d)) [a] (fun r' io => SameIo (some (.op (u % 10) d)) io ∧ ∃ d', r' = .sh d' ∧ Q (.sh d') Γ1) fun x io => SameIo (some (.op (u % 10) d)) io ∧ X x Γ1) X := by
  unfold wCallNew
  congr 1
  funext r Γ1
  cases r <;> simp only [opR, getS_at] <;> rfl
end VL

set_option Elab.async false
set_option linter.all false
set_option maxRecDepth 100000
set_option maxHeartbeats 2000000
namespace RZ2
open PySem PySem.Spec PyProof.Rows L2
open PySem.Sem (wp)
section
variable {prog : Program} {w : World} {A : Around} {E : Value → Shared → Prop} {s : Shared}
theorem nextOf_str_item {it : Addr} {x : Str} {t : Tok} {i c : Nat} {Q : Value → Shared → Prop} (hit : s.heap.IsStrIter it "str_ascii_iterator" x t i) (hx : x.cps[i]? = some c)
    (hQ : ∀ h' t', h'.IsStrIter it "str_ascii_iterator" x t (i + 1) → Heap.SameBut it s.heap h' → Q (.str ⟨#[c]⟩ s.toks) { s with heap := h', toks := t' }) :
    wpAny (model prog w) A (Builtin.SmallTypes.nextOf (.ref it)) Q E s := by
  obtain ⟨o, ho, hc, hd⟩ := id hit
  unfold Builtin.SmallTypes.nextOf
  refine wpAny_bind (wpAny_callSpecial?_slot (name := Str.ofString "__next__") hit.typeIs F.slot_str_ascii_iterator_next
    (wpAny_call_entry F.slot_str_ascii_iterator_next hit.typeIs F.entry_str_ascii_iterator_next ?_ (F.args_str_ascii_iterator_next_1 _)))
  show wpAny _ _ (field (.ref it) 0 >>= _) _ _ s
  refine wpAny_bind (wpAny_field ho hd (x := .str x t) rfl ?_)
  show wpAny _ _ (field (.ref it) 1 >>= _) _ _ s
  refine wpAny_bind (wpAny_field ho hd (x := .int i 0) rfl ?_)
  simp only [Int.toNat_natCast, hx]
  refine wpAny_bind (wpAny_setField ho hd (by simp) (wpAny_bind (wpAny_mkStr (wpAny_pure ⟨_, rfl, wpAny_pure (hQ _ _ ?_ (Heap.SameBut.update ..))⟩) (by show 1 ≤ sizeLine; decide))))
  exact ⟨_, Heap.get?_update_self _ ho (Obj.isFreed_of_fields (Obj.data_mapFields hd _)), (Obj.cls_mapFields ..).trans hc, by
    rw [Obj.data_mapFields hd]; simp [rawInt]⟩
theorem nextOf_str_end {it : Addr} {x : Str} {t : Tok} {i : Nat} {Q : Value → Shared → Prop} (hh : A.handled = none)
    (hit : s.heap.IsStrIter it "str_ascii_iterator" x t i) (hx : x.cps[i]? = none)
    (hE : ∀ h' e, Heap.ExtBut it s.heap h' → (∃ o, h'.get? e = some o ∧ o.cls = .type "StopIteration") → E (.ref e) { s with heap := h' }) :
    wpAny (model prog w) A (Builtin.SmallTypes.nextOf (.ref it)) Q E s := by
  obtain ⟨o, ho, hc, hd⟩ := id hit
  unfold Builtin.SmallTypes.nextOf
  refine wpAny_bind (wpAny_callSpecial?_slot (name := Str.ofString "__next__") hit.typeIs F.slot_str_ascii_iterator_next
    (wpAny_call_entry F.slot_str_ascii_iterator_next hit.typeIs F.entry_str_ascii_iterator_next ?_ (F.args_str_ascii_iterator_next_1 _)))
  show wpAny _ _ (field (.ref it) 0 >>= _) _ _ s
  refine wpAny_bind (wpAny_field ho hd (x := .str x t) rfl ?_)
  show wpAny _ _ (field (.ref it) 1 >>= _) _ _ s
  refine wpAny_bind (wpAny_field ho hd (x := .int i 0) rfl ?_)
  simp only [Int.toNat_natCast, hx]
  refine wpAny_bind (wpAny_rule (wpAny_bind (wpAny_setField ho hd (by simp) (wpAny_bind (wpAny_letGo ?_)))))
  show wpAny _ _ (newExc (.type "StopIteration") [] >>= _) _ _ _
  refine wpAny_bind ?_
  simp only [newExc, newTuple]
  refine wpAny_bind (wpAny_newObj_type ?_ (by size_fits))
  refine wpAny_bind (m := firstArgMember _ _) (wpAny_of_eq (a := Value.none) (by first | rfl | (simp only [firstArgMember]; rfl)) ?_)
  refine wpAny_newObj_type ?_ (by size_fits)
  simp only [raiseNew]
  refine wpAny_bind (wpAny_handled ?_)
  first | rw [show A.in1.handled = none from hh] | rw [hh]
  refine wpAny_bind (wpAny_pure (wpAny_throw ?_))
  exact hE _ _ (((Heap.SameBut.update ..).extBut.push _).push _) ⟨_, Heap.get?_push_size _ rfl, rfl⟩
end
structure ZIt (prog : Program) (w : World) (it : Addr) (dep : List Addr) (src : Heap → Prop) (n : Nat) (Good : Nat → Value → Prop) (St : Nat → Heap → Prop) : Prop where
  keep : ∀ i h h', St i h → (∀ o, h.get? it = some o → h'.get? it = some o) → St i h'
  skeep : ∀ h h', src h → (∀ a ∈ dep, ∀ o, h.get? a = some o → h'.get? a = some o) → src h'
  lt : ∀ i h, St i h → it < h.objs.size
  item : ∀ (A : Around) (E : Value → Shared → Prop) (i : Nat) (s : Shared) (Q : Value → Shared → Prop), i < n → St i s.heap → src s.heap → (∀ h' t' y, Good i y → St (i + 1) h' → Heap.SameBut it s.heap h' → Q y { s with heap := h', toks := t' }) → wpAny (model prog w) A (Builtin.SmallTypes.nextOf (.ref it)) Q E s
  done : ∀ (A : Around) (E : Value → Shared → Prop) (i : Nat) (s : Shared) (Q : Value → Shared → Prop), A.handled = none → n ≤ i → St i s.heap → src s.heap → (∀ h' e, Heap.ExtBut it s.heap h' → (∃ o, h'.get? e = some o ∧ o.cls = .type "StopIteration") → E (.ref e) { s with heap := h' }) → wpAny (model prog w) A (Builtin.SmallTypes.nextOf (.ref it)) Q E s
theorem ZIt.list {prog : Program} {w : World} {it l : Addr} {xs : Array Value} : ZIt prog w it [l] (fun h => h.IsList l xs) xs.size (fun i v => xs[i]? = some v) (fun i h => h.IsListIter it l i) where
  keep := fun i h h' st k => st.at fun o e => k o e
  skeep := fun h h' st k => st.at fun o e => k l (by simp) o e
  lt := fun i h ⟨_, e, _⟩ => Heap.lt_size e
  item := fun A E i s Q hi st sr hQ => wpAny_nextOf_list_item st sr (x := xs[i]) (by simp [hi]) fun h' st' sb => hQ h' s.toks _ (by simp [hi]) st' sb
  done := fun A E i s Q hh hi st sr hE => wpAny_nextOf_list_end hh st sr (by simp; omega) hE
theorem ZIt.str {prog : Program} {w : World} {it : Addr} {x : Str} {t : Tok} : ZIt prog w it [] (fun _ => True) x.cps.size (SignAt x) (fun i h => h.IsStrIter it "str_ascii_iterator" x t i) where
  keep := fun i h h' st k => let ⟨o, ho, r⟩ := st; ⟨o, k o ho, r⟩
  skeep := fun h h' st k => trivial
  lt := fun i h ⟨_, e, _⟩ => Heap.lt_size e
  item := fun A E i s Q hi st sr hQ => nextOf_str_item st (c := x.cps[i]) (by simp [hi]) fun h' t' st' sb => hQ h' t' _ ⟨_, _, by simp [hi], rfl⟩ st' sb
  done := fun A E i s Q hh hi st sr hE => nextOf_str_end hh st (by simp; omega) hE
structure ZA (z TI TO i1 i2 : Addr) (dep : List Addr) : Prop where
  TIz : TI ≠ z
  TOz : TO ≠ z
  i1z : i1 ≠ z
  i2z : i2 ≠ z
  TITO : TI ≠ TO
  TIi1 : TI ≠ i1
  TIi2 : TI ≠ i2
  TOi1 : TO ≠ i1
  TOi2 : TO ≠ i2
  i12 : i1 ≠ i2
  dep : ∀ l ∈ dep, l ≠ z ∧ l ≠ TO ∧ l ≠ i1 ∧ l ≠ i2
section
variable {prog : Program} {w : World} {A : Around} {E : Value → Shared → Prop} {s : Shared} {d1 d2 : List Addr} {r1 r2 : Heap → Prop} {n1 n2 : Nat} {G1 G2 : Nat → Value → Prop} {S1 S2 : Nat → Heap → Prop}
end

end RZ2
namespace VL
open PySem L2 RZ2
def wiZLS (wa : WA) : WI := fun Γ Q X => wa Γ (fun rs Γ1 => frAll rs Γ1 fun ds Γ2 => match ds with
  | [.list l, .str z] => z.cps.all (· < 128) = true ∧ Q (List.zipWith (fun x y => .tuple [x, y]) l (signsD z)) Γ2
  | _ => False) X
@[simp ↓] theorem ev_wiZLS (wa : WA) (Γ : Ev) (Q : List PyData → Ev → Prop) (X : XW) : wiZLS wa Γ Q X = (wa Γ (fun rs Γ1 => frAll rs Γ1 fun ds Γ2 => match ds with
  | [.list l, .str z] => z.cps.all (· < 128) = true ∧ Q (List.zipWith (fun x y => .tuple [x, y]) l (signsD z)) Γ2
  | _ => False) X) := rfl
def wiZSL (wa : WA) : WI := fun Γ Q X => wa Γ (fun rs Γ1 => frAll rs Γ1 fun ds Γ2 => match ds with
  | [.str z, .list l] => z.cps.all (· < 128) = true ∧ Q (List.zipWith (fun x y => .tuple [x, y]) (signsD z) l) Γ2
  | _ => False) X
@[simp ↓] theorem ev_wiZSL (wa : WA) (Γ : Ev) (Q : List PyData → Ev → Prop) (X : XW) : wiZSL wa Γ Q X = (wa Γ (fun rs Γ1 => frAll rs Γ1 fun ds Γ2 => match ds with
  | [.str z, .list l] => z.cps.all (· < 128) = true ∧ Q (List.zipWith (fun x y => .tuple [x, y]) (signsD z) l) Γ2
  | _ => False) X) := rfl
end VL

set_option Elab.async false
set_option linter.all false
set_option maxRecDepth 100000
set_option pp.maxSteps 600
set_option maxHeartbeats 400000
namespace SC
open PySem L2 VL
noncomputable def numD (w : Str) : D := open Classical in if h : ∃ n : Nat, cs w = TL.numL n then .int ((h.choose : Nat) : Int) else .none
noncomputable def argD (w : Str) (c : Nat) : D := if c = 73 then numD w else if nameB w = true then .str w else .none
theorem numD_some {w : Str} {n : Nat} (h : cs w = TL.numL n) : numD w = .int (n : Int) := by
  unfold numD
  have hh : ∃ n : Nat, cs w = TL.numL n := ⟨n, h⟩
  rw [dif_pos hh]
  have e : TL.numL n = TL.numL hh.choose := h.symm.trans hh.choose_spec
  rw [← TL.numL_inj e]
theorem numD_none {w : Str} (h : ∀ n : Nat, cs w ≠ TL.numL n) : numD w = .none := by
  unfold numD
  rw [dif_neg fun ⟨n, hn⟩ => h n hn]
noncomputable def argsD (k : Str) (ws : List Str) : List D := (List.zip ws k.cps.toList).map fun p => argD p.1 p.2
def wordsD (b c : Str) : List Str := if b ≠ "" then Txt.split c " " else []
noncomputable def p3 (a b c : Str) : Option (Str × List D) := match sigTb.lookup a with
  | none => none
  | some k => if k.length ≠ (wordsD b c).length then none else if ((argsD k (wordsD b c)).any fun z => PyData.eqv z .none) = true then none else some (a, argsD k (wordsD b c))
def p2 (c : Str) : Option (Str × List D) :=
  if (Txt.partition c " ").2.1 = "" ∨ nameB (Txt.partition c " ").1 = false then none else some ("load", [.str (Txt.partition c " ").1, .str (Txt.partition c " ").2.2])
theorem sp_one : SX.S [32] = (" " : Str) := by decide +kernel
theorem lay_all : ∀ {es : List D}, (∀ e ∈ es, e.canLay0 = true) → PyData.canLayAll0 es = true
  | [], _ => rfl
  | e :: es, h => by
    simp only [PyData.canLayAll0, h e List.mem_cons_self, lay_all fun x hx => h x (List.mem_cons_of_mem _ hx)]
    rfl
theorem dep_all {n : Nat} : ∀ {es : List D}, (∀ e ∈ es, e.depth ≤ n) → PyData.depthAll es ≤ n
  | [], _ => by simp [PyData.depthAll]
  | e :: es, h => by
    have h1 := h e List.mem_cons_self
    have h2 := dep_all fun x hx => h x (List.mem_cons_of_mem _ hx)
    simp only [PyData.depthAll]
    omega
theorem shaped_of {n : Nat} {xs : List D} (h : ∀ x ∈ xs, SeqAt.shaped x = true ∧ x.depth ≤ n) (hn : n ≤ 60) : SeqAt.shaped (.list xs) = true := by
  have h1 := lay_all fun x hx => SeqAt.canLay_of_shaped (h x hx).1
  have h2 := dep_all (n := n) fun x hx => (h x hx).2
  unfold SeqAt.shaped
  simp only [PyData.canLay0, PyData.depth, h1, Bool.true_and]
  exact decide_eq_true (by omega)
theorem lookup_in {α β : Type} [BEq α] [LawfulBEq α] {a : α} {k : β} : ∀ {l : List (α × β)}, l.lookup a = some k → (a, k) ∈ l
  | [], h => by cases h
  | (b, y) :: l, h => by
    rw [List.lookup_cons] at h
    by_cases e : a = b
    · subst e
      simp at h
      subst h
      exact List.mem_cons_self
    · have : (a == b) = false := by simpa using e
      rw [this] at h
      exact List.mem_cons_of_mem _ (lookup_in h)
end SC

set_option Elab.async false
set_option linter.all false
set_option maxRecDepth 100000
set_option pp.maxSteps 600
set_option maxHeartbeats 400000
namespace SC
open PySem L2 VL
abbrev Sto := List (Str × List It)
def gD (g : List It → D) (st : Sto) : List (D × D) := st.map fun p => (.str p.1, g p.2)
def cD (st : Sto) : D := .dict (gD (fun l => .list (sc l)) st)
def sput (st : Sto) (n : Str) (l : List It) : Sto := if st.any (fun p => decide (p.1 = n)) then st.map fun p => if p.1 = n then (p.1, l) else p else st ++ [(n, l)]
def sdrop (st : Sto) (n : Str) : Sto := st.filter fun p => !decide (p.1 = n)
theorem key_ss (a b : Str) : keyEq (.str a) (.str b) = decide (a = b) := by
  have h := keyEq_kD (.inr a) (.inr b)
  have e : (kD (.inr a) : D) = .str a := rfl
  have e2 : (kD (.inr b) : D) = .str b := rfl
  rw [e, e2] at h
  rw [h]
  simp
theorem gget (g : List It → D) (n : Str) : ∀ st : Sto, dget (gD g st) (.str n) = (st.lookup n).map g
  | [] => rfl
  | p :: st => by
    have ih := gget g n st
    unfold dget gD at ih ⊢
    rw [List.map_cons, List.find?_cons, List.lookup_cons, key_ss]
    by_cases h : p.1 = n
    · simp [h]
    · have h2 : (n == p.1) = false := by simpa using fun e => h e.symm
      simp only [h, decide_false, h2]
      exact ih
abbrev gS : List It → D := fun l => .list (sc l)
@[simp ↓] theorem ev_oInC (n : Str) (st : Sto) (k : VL.R → Prop) : oIn true (.str n) (cD st) k = k (.sh (.bool (!(st.lookup n).isSome))) := by
  show isK (.str n) (k (.sh (.bool (if true then !(dget (gD gS st) (.str n)).isSome else _)))) = _
  rw [gget]
  simp [isK]
@[simp ↓] theorem ev_oIxC (n : Str) (st : Sto) (k : VL.R → Prop) : oIx (cD st) (.str n) k = (match st.lookup n with
  | some l => k (.sh (.list (sc l)))
  | none => False) := by
  show isK (.str n) (match dget (gD gS st) (.str n) with
    | some v => k (.sh v)
    | none => False) = _
  rw [gget]
  cases st.lookup n <;> simp [isK]
@[simp ↓] theorem ev_isDC (st : Sto) (k : List (D × D) → Prop) : isD (cD st) k = k (gD gS st) := rfl
end SC

set_option Elab.async false
set_option linter.all false
set_option maxRecDepth 100000
set_option pp.maxSteps 600
set_option maxHeartbeats 400000
namespace SC
open PySem L2 VL
abbrev exC : List Str := ["InvalidScore", "NotSimple", "InvalidBar", "InvalidTime", "InvalidCount", "UnknownName", "InvalidCommand", "ParseError"]
def kindC (x : Str) : Str := ([("InvalidScore", "score"), ("InvalidTime", "time"), ("EndReached", "end"), ("StartReached", "start"), ("ParseError", "parse"), ("UnknownName", "name"), ("InvalidCommand", "command"), ("InvalidBar", "bar"), ("InvalidCount", "count"), ("NotSimple", "simple")] : List (Str × Str)).lookup x |>.getD ""
theorem kindC_bits {x : Str} (h : x ∈ exC) : ∃ b1 b2 b3 b4 b5 b6 b7 b8 b9 b10 : Bool, (decide (x = "InvalidScore") = b1 ∧ decide (x = "InvalidTime") = b2 ∧ decide (x = "EndReached") = b3 ∧ decide (x = "StartReached") = b4 ∧ decide (x = "ParseError") = b5 ∧ decide (x = "UnknownName") = b6 ∧ decide (x = "InvalidCommand") = b7 ∧ decide (x = "InvalidBar") = b8 ∧ decide (x = "InvalidCount") = b9 ∧ decide (x = "NotSimple") = b10) ∧
    decide (x ∈ (["InvalidPlayback", "InvalidPosition", "InvalidRepeat", "InvalidState", "InvalidWeights"] : List Str)) = false ∧ decide (x ∈ (["LimitExceeded", "NotReconstructible", "UnknownMark"] : List Str)) = false ∧
    ([b1, b2, b3, b4, b5, b6, b7, b8, b9, b10], kindC x) ∈ ([([true, false, false, false, false, false, false, false, false, false], ("score" : Str)), ([false, false, false, false, false, false, false, false, false, true], ("simple" : Str)), ([false, false, false, false, false, false, false, true, false, false], ("bar" : Str)), ([false, true, false, false, false, false, false, false, false, false], ("time" : Str)), ([false, false, false, false, false, false, false, false, true, false], ("count" : Str)), ([false, false, false, false, false, true, false, false, false, false], ("name" : Str)), ([false, false, false, false, false, false, true, false, false, false], ("command" : Str)), ([false, false, false, false, true, false, false, false, false, false], ("parse" : Str))] : List (List Bool × Str)) := by
  refine ⟨_, _, _, _, _, _, _, _, _, _, ⟨rfl, rfl, rfl, rfl, rfl, rfl, rfl, rfl, rfl, rfl⟩, ?_⟩
  have all : ∀ y ∈ exC, decide (decide (y ∈ (["InvalidPlayback", "InvalidPosition", "InvalidRepeat", "InvalidState", "InvalidWeights"] : List Str)) = false ∧ decide (y ∈ (["LimitExceeded", "NotReconstructible", "UnknownMark"] : List Str)) = false ∧
    ([decide (y = "InvalidScore"), decide (y = "InvalidTime"), decide (y = "EndReached"), decide (y = "StartReached"), decide (y = "ParseError"), decide (y = "UnknownName"), decide (y = "InvalidCommand"), decide (y = "InvalidBar"), decide (y = "InvalidCount"), decide (y = "NotSimple")], kindC y) ∈ ([([true, false, false, false, false, false, false, false, false, false], ("score" : Str)), ([false, false, false, false, false, false, false, false, false, true], ("simple" : Str)), ([false, false, false, false, false, false, false, true, false, false], ("bar" : Str)), ([false, true, false, false, false, false, false, false, false, false], ("time" : Str)), ([false, false, false, false, false, false, false, false, true, false], ("count" : Str)), ([false, false, false, false, false, true, false, false, false, false], ("name" : Str)), ([false, false, false, false, false, false, true, false, false, false], ("command" : Str)), ([false, false, false, false, true, false, false, false, false, false], ("parse" : Str))] : List (List Bool × Str))) = true := by decide +kernel
  exact of_decide_eq_true (all x h)
def KeptS (x : Str) (s : Sl) : Prop := s = .op 2 (.str x) ∨ ∃ v, s = .op 6 (.tuple [.str x, v])
def fs_law_kindC : FS := fun io ds Q _ => ∃ (x : Str) (s : Sl), io = some s ∧ KeptS x s ∧ x ∈ exC ∧ ds = [] ∧ Q (.sh (.str (kindC x))) io
def w_law_kindC : WS := wSeq (wSet 1 (wLst (wCons (wTup (wCons (wC (.str "score")) (wCons (wKpA ["InvalidScore", "NotSimple", "InvalidBar", "InvalidTime", "InvalidCount", "UnknownName", "InvalidCommand", "ParseError"] 0 fun x => decide (x = "InvalidScore")) (wNil)))) (wCons (wTup (wCons (wC (.str "time")) (wCons (wKpA ["InvalidScore", "NotSimple", "InvalidBar", "InvalidTime", "InvalidCount", "UnknownName", "InvalidCommand", "ParseError"] 0 fun x => decide (x = "InvalidTime")) (wNil)))) (wNil))))) (wSeq (wSet 1 (wOp oAdd (wVar 1) (wLst (wCons (wTup (wCons (wC (.str "end")) (wCons (wKpA ["InvalidScore", "NotSimple", "InvalidBar", "InvalidTime", "InvalidCount", "UnknownName", "InvalidCommand", "ParseError"] 0 fun x => decide (x = "EndReached")) (wNil)))) (wCons (wTup (wCons (wC (.str "start")) (wCons (wKpA ["InvalidScore", "NotSimple", "InvalidBar", "InvalidTime", "InvalidCount", "UnknownName", "InvalidCommand", "ParseError"] 0 fun x => decide (x = "StartReached")) (wNil)))) (wNil)))))) (wSeq (wSet 1 (wOp oAdd (wVar 1) (wLst (wCons (wTup (wCons (wC (.str "parse")) (wCons (wKpA ["InvalidScore", "NotSimple", "InvalidBar", "InvalidTime", "InvalidCount", "UnknownName", "InvalidCommand", "ParseError"] 0 fun x => decide (x = "ParseError")) (wNil)))) (wCons (wTup (wCons (wC (.str "name")) (wCons (wKpA ["InvalidScore", "NotSimple", "InvalidBar", "InvalidTime", "InvalidCount", "UnknownName", "InvalidCommand", "ParseError"] 0 fun x => decide (x = "UnknownName")) (wNil)))) (wNil)))))) (wSeq (wSet 1 (wOp oAdd (wVar 1) (wLst (wCons (wTup (wCons (wC (.str "command")) (wCons (wKpA ["InvalidScore", "NotSimple", "InvalidBar", "InvalidTime", "InvalidCount", "UnknownName", "InvalidCommand", "ParseError"] 0 fun x => decide (x = "InvalidCommand")) (wNil)))) (wCons (wTup (wCons (wC (.str "bar")) (wCons (wKpA ["InvalidScore", "NotSimple", "InvalidBar", "InvalidTime", "InvalidCount", "UnknownName", "InvalidCommand", "ParseError"] 0 fun x => decide (x = "InvalidBar")) (wNil)))) (wNil)))))) (wSeq (wSet 1 (wOp oAdd (wVar 1) (wLst (wCons (wTup (wCons (wC (.str "count")) (wCons (wKpA ["InvalidScore", "NotSimple", "InvalidBar", "InvalidTime", "InvalidCount", "UnknownName", "InvalidCommand", "ParseError"] 0 fun x => decide (x = "InvalidCount")) (wNil)))) (wCons (wTup (wCons (wC (.str "simple")) (wCons (wKpA ["InvalidScore", "NotSimple", "InvalidBar", "InvalidTime", "InvalidCount", "UnknownName", "InvalidCommand", "ParseError"] 0 fun x => decide (x = "NotSimple")) (wNil)))) (wNil)))))) (wSeq (wSet 2 (wKpA ["InvalidScore", "NotSimple", "InvalidBar", "InvalidTime", "InvalidCount", "UnknownName", "InvalidCommand", "ParseError"] 0 fun x => decide (x ∈ (["InvalidPlayback", "InvalidPosition", "InvalidRepeat", "InvalidState", "InvalidWeights"] : List Str)))) (wSeq (wSet 2 (wOrV (wVar 2) (wKpA ["InvalidScore", "NotSimple", "InvalidBar", "InvalidTime", "InvalidCount", "UnknownName", "InvalidCommand", "ParseError"] 0 fun x => decide (x ∈ (["LimitExceeded", "NotReconstructible", "UnknownMark"] : List Str))))) (wSeq (wSet 3 (wLc [4, 5] (wiL (wVar 1)) (wgTup 2 (wgCons (wgName 4) (wgCons (wgName 5) (wgNil)))) (wT (wVar 5)) (wVar 4))) (wRet (wIf (wOr (wT (wVar 2)) (wOr (wT (wOp oNe (wCB (o1 oLen) (wCons (wVar 3) (wNil))) (wC (.int 1)))) (wNot (wT (wKpA ["InvalidScore", "NotSimple", "InvalidBar", "InvalidTime", "InvalidCount", "UnknownName", "InvalidCommand", "ParseError"] 0 fun _ => true))))) (wC (.str "odd")) (wOp oIx (wVar 3) (wC (.int 0))))))))))))
theorem fv_law_kindC : FnV fs_law_kindC 6 w_law_kindC := by
  rintro io ds Q X ⟨x, s, rfl, hs, hx, rfl, q⟩
  obtain ⟨b1, b2, b3, b4, b5, b6, b7, b8, b9, b10, ⟨e1, e2, e3, e4, e5, e6, e7, e8, e9, e10⟩, f1, f2, hb⟩ := kindC_bits hx
  have g1 := of_decide_eq_false f1
  have g2 := of_decide_eq_false f2
  simp only [List.mem_cons, List.not_mem_nil, or_false] at g1 g2
  rcases hs with rfl | ⟨v, rfl⟩
  all_goals
    show w_law_kindC [.op _ _, .no, .no, .no, .no, .no] _ _
    simp [w_law_kindC, hx, e1, e2, e3, e4, e5, e6, e7, e8, e9, e10, g1, g2]
    refine ⟨smallE (by simp), smallE (by simp), smallE (by simp), smallE (by simp), ?_⟩
    rw [ev_wLc]
    simp
    refine ⟨⟨trivial, trivial, trivial⟩, ?_⟩
    refine lcm_filt [(("score" : Str), b1), (("time" : Str), b2), (("end" : Str), b3), (("start" : Str), b4), (("parse" : Str), b5), (("name" : Str), b6), (("command" : Str), b7), (("bar" : Str), b8), (("count" : Str), b9), (("simple" : Str), b10)] (fun p => .tuple [.str p.1, .bool p.2]) (fun p => .str p.1) (fun p => p.2) (by simp) (fun a acc k _ hz h1 h2 => ?_) ?_
    · obtain ⟨s, b⟩ := a
      unfold lcT
      cases b with
      | true => simp [hz]; exact h1 rfl
      | false => simp; exact h2 rfl
    simp only [List.mem_cons, Prod.mk.injEq, List.cons.injEq, and_true, List.not_mem_nil, or_false] at hb
    rcases hb with h | h | h | h | h | h | h | h <;>
    · obtain ⟨⟨rfl, rfl, rfl, rfl, rfl, rfl, rfl, rfl, rfl, rfl⟩, hk⟩ := h
      rw [hk] at q
      simp [hx, g1, g2, shaped_int, eqv_int, restE, wipeE]
      exact q
theorem kind_name : kindC "ParseError" = "parse" := by decide +kernel
theorem kind_sh {x : Str} (h : x ∈ exC) : SeqAt.shaped (.str (kindC x)) = true := by
  have : ∀ y ∈ exC, SeqAt.shaped (.str (kindC y)) = true := by decide +kernel
  exact this x h
end SC

set_option Elab.async false
set_option linter.all false
set_option maxRecDepth 100000
set_option pp.maxSteps 600
set_option maxHeartbeats 400000
namespace SC
open PySem L2 VL
def Sm (i : Int) : Prop := i.natAbs.log2 < 1920
def joinS (r : List Str) : Str := if r = [] then "none" else Txt.join " " r
def entS (e : Nat × Int) : Str := Str.empty ++ dgt (e.1 : Int) ++ ":" ++ dgt e.2
def stS (p : Nat) (a : Act) : Str := Txt.join " " (dgt (p : Int) :: a.map entS)
def AnsB (l : List It) (b : Nat) (X : Exn → Option Sl → Prop) (q : Prop) : Prop := (barD l (.int (b : Int)) = none ∧ X ⟨"InvalidBar", none⟩ none) ∨ (∃ m, l[b]? = some (.bar m)) ∧ q
def AnsT (top : Nat) (t : Nat) (X : Exn → Option Sl → Prop) (q : Prop) : Prop := (top < t ∧ X ⟨"InvalidTime", none⟩ none) ∨ t ≤ top ∧ q
def Ans (w : Str) (l : List It) (rest : List D) (Q : Str → Prop) (X : Exn → Option Sl → Prop) : Prop :=
  (w = "show" ∧ Q (fmtS l)) ∨
  (w = "length" ∧ Sm (total l) ∧ Q (dgt (total l))) ∨
  (w = "plays" ∧ ∃ b : Nat, rest = [.int (b : Int)] ∧ AnsB l b X (Sm (((TT l).count b : Nat) : Int) ∧ Q (dgt (((TT l).count b : Nat) : Int)))) ∨
  (w = "before" ∧ ∃ b t : Nat, rest = [.int (b : Int), .int (t : Int)] ∧ AnsB l b X (AnsT (tl l l.length) t X (Sm ((plays l b t : Nat) : Int) ∧ Q (dgt ((plays l b t : Nat) : Int))))) ∨
  (w = "next" ∧ ∃ b t : Nat, rest = [.int (b : Int), .int (t : Int)] ∧ AnsB l b X (AnsT (tl l l.length) t X ((plays l b t = (TT l).count b → Q "none") ∧ ∀ t' : Nat, (TT l)[t']? = some b → plays l b t' = plays l b t → Sm (t' : Int) ∧ Q (dgt (t' : Int))))) ∨
  (w = "bar" ∧ ∃ t : Nat, rest = [.int (t : Int)] ∧ ((tl l l.length ≤ t ∧ X ⟨"InvalidTime", none⟩ none) ∨ ∃ b m, (TT l)[t]? = some b ∧ l[b]? = some (.bar m) ∧ Q m)) ∨
  (w = "state" ∧ ∃ t : Nat, rest = [.int (t : Int)] ∧ AnsT (tl l l.length) t X (∃ p a, Vs l p p a ∧ tv l p a = t ∧ ((p = l.length ∧ a = []) ∨ ∃ n, l[p]? = some (.bar n)) ∧ (∀ e ∈ a, e.1 < 1000 ∧ 0 ≤ e.2 ∧ e.2 < 2 ^ 31) ∧ a.length ≤ 300 ∧ Q (stS p a))) ∨
  (w = "play" ∧ ∃ t m : Nat, rest = [.int (t : Int), .int (m : Int)] ∧ AnsT (tl l l.length) t X ((2000 < m ∧ X ⟨"InvalidCount", none⟩ none) ∨ m ≤ 2000 ∧ (∀ y ∈ plL l t m, Asc (cs y) ∧ y.length ≤ 1000) ∧ Q (joinS (plL l t m)))) ∨
  (w = "visits" ∧ (∀ i ∈ visL l, 0 ≤ i ∧ Sm i ∧ (dgt i).length ≤ 600) ∧ Q (joinS ((visL l).map dgt))) ∨
  (w = "normal" ∧ ((smB l = false ∧ X ⟨"NotSimple", none⟩ none) ∨ smB l = true ∧ ok [] (nf l) ∧ (nf l).length ≤ 290 ∧ Q (if nf l = [] then "none" else fmtS (nf l))))
theorem Ans.imp {w : Str} {l : List It} {rest : List D} {Q Q' : Str → Prop} {X X' : Exn → Option Sl → Prop} (h : Ans w l rest Q X) (hQ : ∀ s, Q s → Q' s) (hX : ∀ e io, X e io → X' e io) : Ans w l rest Q' X' := by
  have bi : ∀ {b : Nat} {q q' : Prop}, (q → q') → AnsB l b X q → AnsB l b X' q' := fun hq h => h.elim (fun h => .inl ⟨h.1, hX _ _ h.2⟩) fun h => .inr ⟨h.1, hq h.2⟩
  have ti : ∀ {n t : Nat} {q q' : Prop}, (q → q') → AnsT n t X q → AnsT n t X' q' := fun hq h => h.elim (fun h => .inl ⟨h.1, hX _ _ h.2⟩) fun h => .inr ⟨h.1, hq h.2⟩
  unfold Ans at h ⊢
  rcases h with ⟨e, q⟩ | ⟨e, hs, q⟩ | ⟨e, b, e2, q⟩ | ⟨e, b, t, e2, q⟩ | ⟨e, b, t, e2, q⟩ | ⟨e, t, e2, q⟩ | ⟨e, t, e2, q⟩ | ⟨e, t, m, e2, q⟩ | ⟨e, hv, q⟩ | ⟨e, q⟩
  · exact .inl ⟨e, hQ _ q⟩
  · exact .inr (.inl ⟨e, hs, hQ _ q⟩)
  · exact .inr (.inr (.inl ⟨e, b, e2, bi (fun h => ⟨h.1, hQ _ h.2⟩) q⟩))
  · exact .inr (.inr (.inr (.inl ⟨e, b, t, e2, bi (ti fun h => ⟨h.1, hQ _ h.2⟩) q⟩)))
  · exact .inr (.inr (.inr (.inr (.inl ⟨e, b, t, e2, bi (ti fun h => ⟨fun z => hQ _ (h.1 z), fun t' a c => ⟨(h.2 t' a c).1, hQ _ (h.2 t' a c).2⟩⟩) q⟩))))
  · exact .inr (.inr (.inr (.inr (.inr (.inl ⟨e, t, e2, q.elim (fun h => .inl ⟨h.1, hX _ _ h.2⟩) fun ⟨b, m, a, c, q⟩ => .inr ⟨b, m, a, c, hQ _ q⟩⟩)))))
  · exact .inr (.inr (.inr (.inr (.inr (.inr (.inl ⟨e, t, e2, ti (fun ⟨p, a, h1, h2, h3, h4, h5, q⟩ => ⟨p, a, h1, h2, h3, h4, h5, hQ _ q⟩) q⟩))))))
  · exact .inr (.inr (.inr (.inr (.inr (.inr (.inr (.inl ⟨e, t, m, e2, ti (fun h => h.elim (fun h => .inl ⟨h.1, hX _ _ h.2⟩) fun h => .inr ⟨h.1, h.2.1, hQ _ h.2.2⟩) q⟩)))))))
  · exact .inr (.inr (.inr (.inr (.inr (.inr (.inr (.inr (.inl ⟨e, hv, hQ _ q⟩))))))))
  · exact .inr (.inr (.inr (.inr (.inr (.inr (.inr (.inr (.inr ⟨e, q.elim (fun h => .inl ⟨h.1, hX _ _ h.2⟩) fun h => .inr ⟨h.1, h.2.1, h.2.2.1, hQ _ h.2.2.2⟩⟩))))))))
theorem ScV.imp {v : D} {a b b' : Prop} {k k' : List It → Prop} (h : ScV v a b k) (hb : b → b') (hk : ∀ l, k l → k' l) : ScV v a b' k' := by
  obtain ⟨h1, h2, h3⟩ := h
  exact ⟨h1, fun z => hb (h2 z), fun z => let ⟨l, e, o, n, q⟩ := h3 z; ⟨l, e, o, n, hk l q⟩⟩
end SC

set_option Elab.async false
set_option linter.all false
set_option maxRecDepth 100000
namespace SC
open PySem PySem.Spec L2 VL PyProof.Rows
end SC

set_option Elab.async false
set_option linter.all false
set_option maxRecDepth 100000
set_option pp.maxSteps 600
set_option maxHeartbeats 400000
namespace SC
open PySem L2 VL
theorem ok_at2 {l : List It} (h : ok [] l) {i : Nat} {it : It} (e : l[i]? = some it) : ok (mk [] (l.take i)) [it] := by
  obtain ⟨hi, e2⟩ := List.getElem?_eq_some_iff.mp e
  have e3 : l = l.take i ++ ([it] ++ l.drop (i + 1)) := by
    rw [← e2]
    simp
  rw [e3] at h
  have h1 := ((ok_app _ _ _).mp h).2
  have h2 := ((ok_app _ _ _).mp h1).1
  exact h2
theorem wd_fmt {l : List It} (hsh : ∀ it ∈ l, it.shows) : wd (fmtS l) = l.map itS := by
  unfold wd
  by_cases hne : l = []
  · subst hne
    rw [if_pos fmt_nil]
    rfl
  · rw [if_neg (fmt_ne hsh hne), fmt_split hsh hne]
theorem bad_not {l : List It} (h : ok [] l) {n : Nat} (hb : BadAt (fmtS l) n) : False := by
  have hsh := ok_shows h
  obtain ⟨l2, y, b1, b2, b3, b4⟩ := hb
  rw [wd_fmt hsh] at b1 b3
  rw [List.getElem?_map] at b3
  cases hi : l[n]? with
  | none => rw [hi] at b3; cases b3
  | some it =>
    rw [hi] at b3
    have b5 : itS it = y := Option.some.inj b3
    rw [← List.map_take] at b1
    have e := map_inj (ok_shows b2) (fun it hi => hsh it (List.mem_of_mem_take hi)) b1
    refine b4 it b5 ?_
    rw [e]
    exact ok_at2 h hi
theorem name_ge {x : Str} (h : nameB x = true) : ∀ k ∈ cs x, 32 ≤ k := fun k hk => by
  unfold nameB at h
  rw [Bool.and_eq_true] at h
  have h3 := List.all_eq_true.mp h.2 k hk
  unfold letter at h3
  simp at h3
  have : ∀ j ∈ ("abcdefghijklmnopqrstuvwxyz" : Str).cps.toList, 32 ≤ j := by decide +kernel
  exact this k (by simpa using h3)
theorem itS_ge {it : It} (h : it.shows) : ∀ k ∈ cs (itS it), 32 ≤ k := by
  cases it with
  | bar x => exact name_ge (x := x) h
  | mark x =>
    intro k hk
    rw [cs_mark] at hk
    rcases List.mem_append.mp hk with hk | hk
    · exact name_ge (x := x) h k hk
    · simp at hk; omega
  | rep x c =>
    obtain ⟨hx, c1, c2⟩ := h
    intro k hk
    obtain ⟨n, rfl⟩ : ∃ n : Nat, c = (n : Int) := ⟨c.toNat, by omega⟩
    rw [cs_rep] at hk
    rcases List.mem_append.mp hk with hk | hk
    · exact name_ge hx k hk
    · rcases List.mem_append.mp hk with hk | hk
      · simp at hk; omega
      · have := TL.numL_digits n k hk
        omega
structure LOk (m : Nat) (l : List It) : Prop where
  ok : ok [] l
  len : l.length ≤ m
  cnt : ∀ x c, It.rep x c ∈ l → c ≤ 999999999
theorem nodup_len {l m : List Str} (h : l.Nodup) (s : ∀ x ∈ l, x ∈ m) : l.length ≤ m.length := by
  induction l generalizing m with
  | nil => exact Nat.zero_le _
  | cons a l ih =>
    obtain ⟨h1, h2⟩ := List.nodup_cons.mp h
    have ha := s a List.mem_cons_self
    have := ih h2 (m := m.erase a) fun x hx => (List.mem_erase_of_ne (fun e => h1 (by rw [← e]; exact hx))).mpr (s x (List.mem_cons_of_mem _ hx))
    rw [List.length_erase_of_mem ha] at this
    have hp := List.length_pos_of_mem ha
    rw [List.length_cons]
    omega
structure SOk (ns : List Str) (m : Nat) (st : Sto) : Prop where
  nm : ∀ p ∈ st, p.1 ∈ ns
  nd : (st.map (·.1)).Nodup
  ok : ∀ p ∈ st, LOk m p.2
theorem SOk.len {ns : List Str} {m : Nat} {st : Sto} (h : SOk ns m st) : st.length ≤ ns.length := by
  have := nodup_len h.nd (m := ns) fun x hx => by
    obtain ⟨p, hp, rfl⟩ := List.mem_map.mp hx
    exact h.nm p hp
  simpa using this
theorem SOk.get {ns : List Str} {m : Nat} {st : Sto} (h : SOk ns m st) {n : Str} {l : List It} (e : st.lookup n = some l) : LOk m l := h.ok _ (lookup_in e)
theorem SOk.nil {ns : List Str} {m : Nat} : SOk ns m [] := ⟨(fun p h => nomatch h), List.nodup_nil, (fun p h => nomatch h)⟩
theorem SOk.drop {ns : List Str} {m : Nat} {st : Sto} (h : SOk ns m st) (n : Str) : SOk ns m (sdrop st n) := by
  refine ⟨fun p hp => h.nm p (List.mem_filter.mp hp).1, ?_, fun p hp => h.ok p (List.mem_filter.mp hp).1⟩
  exact h.nd.sublist (List.filter_sublist.map _)
theorem SOk.put {ns : List Str} {m : Nat} {st : Sto} (h : SOk ns m st) {n : Str} {l : List It} (hn : n ∈ ns) (hl : LOk m l) : SOk ns m (sput st n l) := by
  unfold sput
  split
  · refine ⟨fun p hp => ?_, ?_, fun p hp => ?_⟩
    · obtain ⟨q, hq, rfl⟩ := List.mem_map.mp hp
      split
      · exact h.nm q hq
      · exact h.nm q hq
    · rw [List.map_map]
      have e : st.map ((fun p : Str × List It => p.1) ∘ fun p => if p.1 = n then (p.1, l) else p) = st.map (·.1) := List.map_congr_left fun p _ => by
        show (if p.1 = n then (p.1, l) else p).1 = p.1
        split <;> rfl
      rw [e]
      exact h.nd
    · obtain ⟨q, hq, rfl⟩ := List.mem_map.mp hp
      split
      · exact hl
      · exact h.ok q hq
  · rename_i hany
    refine ⟨fun p hp => ?_, ?_, fun p hp => ?_⟩
    · rcases List.mem_append.mp hp with hp | hp
      · exact h.nm p hp
      · rw [List.mem_singleton.mp hp]; exact hn
    · rw [List.map_append, List.nodup_append]
      refine ⟨h.nd, by simp, fun a ha b hb e => ?_⟩
      have hb : b = n := by simpa using hb
      subst hb
      obtain ⟨p, hp, e2⟩ := List.mem_map.mp ha
      exact hany (List.any_eq_true.mpr ⟨p, hp, by simp [e2, e]⟩)
    · rcases List.mem_append.mp hp with hp | hp
      · exact h.ok p hp
      · rw [List.mem_singleton.mp hp]; exact hl
end SC

set_option Elab.async false
set_option linter.all false
set_option maxRecDepth 100000
set_option pp.maxSteps 600
set_option maxHeartbeats 400000
namespace SC
open PySem L2 VL
theorem numL_free (n : Nat) : 32 ∉ TL.numL n ∧ 10 ∉ TL.numL n ∧ 9 ∉ TL.numL n := by
  refine ⟨fun h => ?_, fun h => ?_, fun h => ?_⟩ <;> (have := TL.numL_digits n _ h; omega)
def Wd (y : Str) (c : Nat) (d : D) : Prop := (c = 78 ∧ nameB y = true ∧ d = .str y) ∨ (c = 73 ∧ ∃ n : Nat, cs y = TL.numL n ∧ d = .int (n : Int))
theorem Wd.arg {y : Str} {c : Nat} {d : D} (h : Wd y c d) : argD y c = d ∧ 32 ∉ cs y ∧ 10 ∉ cs y ∧ 9 ∉ cs y ∧ PyData.eqv d .none = false := by
  rcases h with ⟨rfl, hn, rfl⟩ | ⟨rfl, n, e, rfl⟩
  · refine ⟨?_, name_free hn (by decide +kernel), name_free hn (by decide +kernel), name_free hn (by decide +kernel), rfl⟩
    unfold argD
    rw [if_neg (by decide), if_pos hn]
  · have := numL_free n
    refine ⟨?_, by rw [e]; exact this.1, by rw [e]; exact this.2.1, by rw [e]; exact this.2.2, rfl⟩
    unfold argD
    rw [if_pos rfl]
    exact numD_some e
inductive Wds : List Str → List Nat → List D → Prop where
  | nil : Wds [] [] []
  | cons {y : Str} {c : Nat} {d : D} {ys : List Str} {cc : List Nat} {ds : List D} (h : Wd y c d) (r : Wds ys cc ds) : Wds (y :: ys) (c :: cc) (d :: ds)
theorem Wds.all {ys : List Str} {cc : List Nat} {ds : List D} (h : Wds ys cc ds) : ys.length = cc.length ∧ (List.zip ys cc).map (fun p => argD p.1 p.2) = ds ∧ (∀ y ∈ ys, 32 ∉ cs y ∧ 10 ∉ cs y ∧ 9 ∉ cs y) ∧ (ds.any fun z => PyData.eqv z .none) = false := by
  induction h with
  | nil => exact ⟨rfl, rfl, fun _ h => (nomatch h), rfl⟩
  | cons h r ih =>
    obtain ⟨a1, a2, a3, a4, a5⟩ := h.arg
    obtain ⟨b1, b2, b3, b4⟩ := ih
    refine ⟨by simp [b1], by rw [List.zip_cons_cons, List.map_cons, a1, b2], fun y hy => ?_, by rw [List.any_cons, a5, b4]; rfl⟩
    rcases List.mem_cons.mp hy with rfl | hy
    · exact ⟨a2, a3, a4⟩
    · exact b3 y hy
end SC

set_option Elab.async false
set_option linter.all false
set_option maxRecDepth 100000
set_option pp.maxSteps 600
set_option maxHeartbeats 400000
namespace SC
open PySem L2 VL
section
variable {st : Sto} {x w n : Str} {rest : List D} {Q : VL.R → Option Sl → Prop} {X : Exn → Option Sl → Prop}
end
end SC

set_option Elab.async false
set_option linter.all false
set_option maxRecDepth 100000
set_option pp.maxSteps 600
set_option maxHeartbeats 400000
namespace SC
open PySem L2 VL
theorem bad_uniq {t : Str} {n m : Nat} (hn : BadAt t n) (hm : BadAt t m) : n = m := by
  have key : ∀ {a b : Nat}, BadAt t a → BadAt t b → ¬ a < b := by
    rintro a b ⟨l1, y1, a1, a2, a3, a4⟩ ⟨l2, y2, b1, b2, b3, b4⟩ hab
    have e : l2[a]?.map itS = some y1 := by
      rw [← List.getElem?_map, b1, List.getElem?_take_of_lt hab, a3]
    cases hi : l2[a]? with
    | none => rw [hi] at e; cases e
    | some it =>
      rw [hi] at e
      have hy : itS it = y1 := Option.some.inj e
      have hsh := ok_shows b2
      have e2 : (l2.take a).map itS = l1.map itS := by
        rw [List.map_take, b1, a1, List.take_take, Nat.min_eq_left (by omega)]
      have e3 := map_inj (fun it hi => hsh it (List.mem_of_mem_take hi)) (ok_shows a2) e2
      refine a4 it hy ?_
      rw [← e3]
      exact ok_at2 b2 hi
  have h1 := key hn hm
  have h2 := key hm hn
  omega
structure Wq (y : Str) : Prop where
  sp : 32 ∉ cs y
  sg : ∀ k ∈ cs y, k < 128 ∧ k ≠ 10 ∧ k ≠ 9
  nl : NoLong (cs y)
  ln : y.length ≤ 3000
theorem fmt_one (it : It) : fmtS [it] = itS it := str_ext (by rw [fmt_cs]; rfl)
theorem Wq.it {it : It} (h : it.shows) (hc : ∀ x c, it = .rep x c → c ≤ 999999999) : Wq (itS it) := by
  refine ⟨itS_free h, fun k hk => ⟨itS_lt h k hk, by have := itS_ge h k hk; omega, by have := itS_ge h k hk; omega⟩, ?_, itS_len h⟩
  have := noLong_fmt (l := [it]) (fun z hz => by rw [List.mem_singleton.mp hz]; exact h) fun x c hm => hc x c (List.mem_singleton.mp hm).symm
  rwa [fmt_one] at this
section
variable {st : Sto} {nm : Str} {Q : VL.R → Option Sl → Prop} {X : Exn → Option Sl → Prop}
end
end SC

set_option Elab.async false
set_option linter.all false
set_option maxRecDepth 100000
set_option pp.maxSteps 600
set_option maxHeartbeats 2000000
namespace VL
open PySem PySem.Spec PyProof.Rows L2
def tMkV (t : St → Hp → XK → Prop) : TE := fun σ H Q => t σ H fun cls d H1 => ∀ a, H1 a = none → Q (.ref a) (upd H1 a (KpD cls d a))
theorem pe_ofMk {X : Cx} {e : Expr} {t : St → Hp → XK → Prop} (h : L2N.PMk X e t) : PE X e (tMkV t) := by
  refine ⟨fun pins s σ H Q I hh => ?_⟩
  refine thn (h pins s σ H _ I hh) fun u s' hu => ?_
  obtain ⟨a, oe, vs, sI, H', cls, d, rfl, J, k, hne, ha, hz, hd, h1, na, os, ag, r, q⟩ := hu
  have K := J.laidN (h' := s'.heap) (t' := s'.toks) (o := KpD cls d a) k hne na (kpD_ok ha hz hd)
  exact ⟨.ref a, _, ⟨K.ok, os.trans J.os, ag, K.base, K.loc, K.cell, K.free, K.freeC, K.pin, K.hok, K.len⟩, rfl, q a na⟩
def ExA (K : Fg) (Hi H : Hp) (a : Addr) (nm : Str) (v : V) : Prop := ∃ dx, H a = some (KpD (.ref (He.ga K nm)) (some dx) a) ∧ H dx = some (.xd [(("index" : Str), v)])
theorem ExA.grow {K : Fg} {Hi Hi' H H' : Hp} {a : Addr} {nm : Str} {v : V} (h : ExA K Hi H a nm v) (e : Ext H H') : ExA K Hi' H' a nm v :=
  let ⟨dx, h1, h2⟩ := h
  ⟨dx, e _ _ h1, e _ _ h2⟩
section
variable {X : Cx} {G : Gb} {W : WX} {nm : Str} {C : Cf} {Hi H : Hp} {σ : St} {Γ : Ev}
theorem exv_ends (hca : G.ca = He.ga G.K) (T : OiF G.K nm) {v : V} {Q : VK} (c : Rel G C Hi σ H Γ)
    (q : ∀ H' Hi' a, Ext Hi Hi' → Ext H H' → Rel G C Hi' σ H' Γ → ExA G.K Hi' H' a nm v → Q (.ref a) H') {a : Addr} (ha : H a = none) :
    spIx G.K [.ref a, v] (upd H a (exo a (He.ga G.K nm) none)) (fun u H2 => u = .non ∧ ∃ (d : Addr) (fs : List (Str × V)), H2 a = some (exo a (He.ga G.K nm) (some d)) ∧ H2 d = some (exd d fs) ∧ H d = none ∧
      ∀ b, (upd (del H2 a) d (.xd fs)) b = none → Q (.ref b) (upd (upd (del H2 a) d (.xd fs)) b (KpD (.ref (He.ga G.K nm)) (some d) b))) (fun _ _ _ => False) := by
  refine ⟨a, He.ga G.K nm, v, rfl, T.x, T.noN, upd_same, fun dx h1 h2 => ?_⟩
  have hdx : H dx = none := by rw [upd_ne h2] at h1; exact h1
  refine ⟨rfl, dx, [(("index" : Str), v)], upd_same, by rw [upd_ne h2, upd_same], hdx, ?_⟩
  have e : (upd (del (upd (upd (upd H a (exo a (He.ga G.K nm) none)) dx (exd dx [(("index" : Str), v)])) a (exo a (He.ga G.K nm) (some dx))) a) dx (.xd [(("index" : Str), v)])) = upd H dx (.xd [(("index" : Str), v)]) := by
    funext b
    by_cases z : b = dx
    · rw [z, upd_same, upd_same]
    · rw [upd_ne z, upd_ne z]
      by_cases z2 : b = a
      · rw [z2, del_same, ha]
      · rw [del_ne z2, upd_ne z2, upd_ne z, upd_ne z2]
  rw [e]
  intro b hb
  have hbd : b ≠ dx := fun z => by rw [z, upd_same] at hb; cases hb
  have hb0 : H b = none := by rw [upd_ne hbd] at hb; exact hb
  have x1 : Ext H (upd H dx (.xd [(("index" : Str), v)])) := Ext.new hdx
  have x2 : Ext (upd H dx (.xd [(("index" : Str), v)])) (upd (upd H dx (.xd [(("index" : Str), v)])) b (KpD (.ref (He.ga G.K nm)) (some dx) b)) := Ext.new hb
  have x3 := x1.trans x2
  refine q _ Hi b (Ext.refl _) x3 (c.grow x3 (Ext.refl _) (c.imm.trans x3) fun _ _ z => .inl z) ⟨dx, upd_same, ?_⟩
  rw [upd_ne (Ne.symm hbd), upd_same]
def wIxN (we : WE) : WE := fun Γ Q X => we Γ (fun r Γ1 => rdW r Γ1 fun d => isI d fun i => Q (.sh (.int i)) Γ1) X
def wIxN0 : WE := fun Γ Q _ => Q (.sh .none) Γ
variable {e : Expr} {te : TE} {we : WE} {p pos pos' : Pos}
theorem pe_exv (hK : X.K = G.K) (hr : Room 2 X.A) (mk : MkI X.prog X.w G.K X.mg X.base nm) (he : PE X e te) (hg : Gl X nm := by rfl) (hdb : (nm == ("__debug__" : Str)) = false := by decide)
    (hst : starEach (e :: []) X.env = (false, eval e X.env) :: starEach [] X.env := by rfl) (hpl : (backTo pos' (starEach [] X.env)).any (·.1) = false := by rfl) :
    PE X (.Call (.Name nm p) [e] [] pos') (tMkV (tMkO (He.ga G.K nm) (spIx G.K) [] (tCons te tNil))) := by
  obtain ⟨hm, T, fd, F1, ⟨ds, hd, hb⟩, _⟩ := mk
  exact pe_ofMk (pmk_oexN (by rw [hK]; exact T.x) (by rw [hK]; exact T.iC) (by rw [hK]; exact T.tI) (by rw [hK]; exact F1) (hr.mono (by decide)) (by rw [hK]; exact hb) hd never_passes hg hm (pa_cons he pa_nil hst) hdb hst hpl)
theorem pe_exv0 (hK : X.K = G.K) (hr : Room 2 X.A) (mk : MkI X.prog X.w G.K X.mg X.base nm) (hg : Gl X nm := by rfl) (hdb : (nm == ("__debug__" : Str)) = false := by decide) :
    PE X (.Call (.Name nm p) [] [] pos') (tMkV (tMkO (He.ga G.K nm) (spIx G.K) [.non] tNil)) := by
  obtain ⟨hm, T, fd, F1, _, ds, hd, hb⟩ := mk
  exact pe_ofMk (pmk_oexN0 (by rw [hK]; exact T.x) (by rw [hK]; exact T.iC) (by rw [hK]; exact T.tI) (by rw [hK]; exact F1) (hr.mono (by decide)) (by rw [hK]; exact hb) hd never_passes hg hm hdb)
inductive ExAs (K : Fg) (Hi H : Hp) : List V → List V → Prop
  | nil : ExAs K Hi H [] []
  | cons {a : Addr} {nm : Str} {v : V} {as vs : List V} : OiF K nm → ExA K Hi H a nm v → ExAs K Hi H as vs → ExAs K Hi H (.ref a :: as) (v :: vs)
theorem ExAs.grow {K : Fg} {Hi Hi' H H' : Hp} {as vs : List V} (h : ExAs K Hi H as vs) (e : Ext H H') : ExAs K Hi' H' as vs := by
  induction h with
  | nil => exact .nil
  | cons T h1 _ ih => exact .cons T (h1.grow e) ih
theorem ExAs.at {K : Fg} {Hi H : Hp} : ∀ {as vs : List V}, ExAs K Hi H as vs → ∀ (i : Nat) (x : V), as[i]? = some x → ∃ a nm v, x = .ref a ∧ OiF K nm ∧ ExA K Hi H a nm v ∧ vs[i]? = some v
  | _, _, .cons T h1 _, 0, x, e => by cases e; exact ⟨_, _, _, rfl, T, h1, rfl⟩
  | _, _, .cons _ _ h2, i + 1, x, e => h2.at i x e
theorem ExAs.len {K : Fg} {Hi H : Hp} : ∀ {as vs : List V}, ExAs K Hi H as vs → as.length = vs.length
  | _, _, .nil => rfl
  | _, _, .cons _ _ h => by rw [List.length_cons, List.length_cons, h.len]
structure XA (X : Cx) (G : Gb) (es : List Expr) (ta : TA) (vs : List V) : Prop where
  pe : PA X es ta
  run : ∀ (C : Cf) (Hi : Hp) (σ : St) (H : Hp) (Γ : Ev) (Q : List V → Hp → Prop), Rel G C Hi σ H Γ → (∀ as H' Hi', Ext Hi Hi' → Ext H H' → Rel G C Hi' σ H' Γ → ExAs G.K Hi' H' as vs → Q as H') → ta σ H Q
theorem xa_nil : XA X G [] tNil [] := ⟨pa_nil, fun C Hi σ H Γ Q c q => q [] H Hi (Ext.refl _) (Ext.refl _) c .nil⟩
theorem xa_cons {es : List Expr} {ta : TA} {vs : List V} {i : Int} {k : Nat} {pi : Pos} (hK : X.K = G.K) (hca : G.ca = He.ga G.K) (hr : Room 2 X.A) (mk : MkI X.prog X.w G.K X.mg X.base nm) (h : XA X G es ta vs) (hg : Gl X nm := by rfl) (hdb : (nm == ("__debug__" : Str)) = false := by decide)
    (hst : starEach (.Constant (.int i) k pi :: []) X.env = (false, eval (.Constant (.int i) k pi) X.env) :: starEach [] X.env := by rfl) (hpl : (backTo pos' (starEach [] X.env)).any (·.1) = false := by rfl)
    (hs2 : starEach (.Call (.Name nm p) [.Constant (.int i) k pi] [] pos' :: es) X.env = (false, eval (.Call (.Name nm p) [.Constant (.int i) k pi] [] pos') X.env) :: starEach es X.env := by rfl) :
    XA X G (.Call (.Name nm p) [.Constant (.int i) k pi] [] pos' :: es) (tCons (tMkV (tMkO (He.ga G.K nm) (spIx G.K) [] (tCons (tC (.int i)) tNil))) ta) (.int i :: vs) := by
  refine ⟨pa_cons (pe_exv hK hr mk pe_int hg hdb hst hpl) h.pe hs2, fun C Hi σ H Γ Q c q => ?_⟩
  refine ⟨by simp, fun a ha => exv_ends (Q := fun x H1 => ta σ H1 fun xs H2 => Q (x :: xs) H2) hca mk.2.1 c (fun H' Hi' b x1 x2 c3 hx => ?_) ha⟩
  exact h.run C Hi' σ H' Γ _ c3 fun as H2 Hi2 y1 y2 c4 ha4 => q _ H2 Hi2 (x1.trans y1) (x2.trans y2) c4 (.cons mk.2.1 (hx.grow y2) ha4)
theorem xa_cons0 {es : List Expr} {ta : TA} {vs : List V} (hK : X.K = G.K) (hca : G.ca = He.ga G.K) (hr : Room 2 X.A) (mk : MkI X.prog X.w G.K X.mg X.base nm) (h : XA X G es ta vs) (hg : Gl X nm := by rfl) (hdb : (nm == ("__debug__" : Str)) = false := by decide)
    (hs2 : starEach (.Call (.Name nm p) [] [] pos' :: es) X.env = (false, eval (.Call (.Name nm p) [] [] pos') X.env) :: starEach es X.env := by rfl) :
    XA X G (.Call (.Name nm p) [] [] pos' :: es) (tCons (tMkV (tMkO (He.ga G.K nm) (spIx G.K) [.non] tNil)) ta) (.non :: vs) := by
  refine ⟨pa_cons (pe_exv0 hK hr mk hg hdb) h.pe hs2, fun C Hi σ H Γ Q c q => ?_⟩
  refine ⟨by simp, fun a ha => exv_ends (Q := fun x H1 => ta σ H1 fun xs H2 => Q (x :: xs) H2) hca mk.2.1 c (fun H' Hi' b x1 x2 c3 hx => ?_) ha⟩
  exact h.run C Hi' σ H' Γ _ c3 fun as H2 Hi2 y1 y2 c4 ha4 => q _ H2 Hi2 (x1.trans y1) (x2.trans y2) c4 (.cons mk.2.1 (hx.grow y2) ha4)
def wExs (i ev : Nat) (ds : List D) (wr : WE) (wb : WS) : WS := fun Γ Dd X => i < Γ.length ∧ ds.length < sizeLine ∧ okW (Γ.set i .no) [ev] ∧ wr (Γ.set i .no) (fun r Γ1 => rdW r Γ1 fun d => oNe (.list ds) d fun r2 => rdW r2 Γ1 fun z => isB z fun b => if b = true then wb Γ1 Dd X else Dd.nx Γ1) X
theorem exs_comp {K : Fg} {H : Hp} {σ : St} {p : Addr} {as vs : List V} {i ev : Nat} {Q : VK} (hp : H p = some (.lst as)) (hσ : σ[i]? = some (some (.ref p))) (hev : ev < σ.length) (ha : ExAs K Hi H as vs) (hl : vs.length < sizeLine)
    (q : ∀ Dp, H Dp = none → Q (.ref Dp) (upd H Dp (.lst vs))) : tLc (iList K (tVar i)) (gName ev) tYes (tIdx K (tVar ev)) [ev] σ H Q := by
  refine ⟨_, hσ, p, rfl, ⟨as, SqL.of hp⟩, fun Dp hD => ⟨fun j m H' => m = vs.length - j ∧ j ≤ vs.length ∧ H' = upd H Dp (.lst (vs.take j)), ⟨_, rfl, Nat.zero_le _, by simp⟩, ?_⟩⟩
  rintro j m H' ⟨rfl, hj, rfl⟩
  have hpD : p ≠ Dp := fun z => by rw [z, hD] at hp; cases hp
  have hp' : upd H Dp (.lst (vs.take j)) p = some (.lst as) := by rw [upd_ne hpD]; exact hp
  have el := ha.len
  by_cases hlt : j < vs.length
  · refine .inr ⟨⟨as, as[j], SqL.of hp', List.getElem?_eq_getElem (by omega)⟩, fun H' => H' = upd H Dp (.lst (vs.take (j + 1))), fun H' e => ⟨_, by omega, rfl, hlt, e⟩, fun x H3 y => ?_⟩
    obtain ⟨rfl, hx⟩ := y
    obtain ⟨a, nm, v, rfl, T, ⟨dx, h1, h2⟩, hv⟩ := ha.at j x (hx as (SqL.of hp'))
    have haD : a ≠ Dp := fun z => by rw [z, hD] at h1; cases h1
    have hdD : dx ≠ Dp := fun z => by rw [z, hD] at h2; cases h2
    refine ⟨by simp [L2.wipe], ?_⟩
    show tYes _ _ _
    unfold tYes
    dsimp only
    rw [if_pos rfl]
    refine ⟨.ref a, by rw [List.getElem?_set_self (by rw [wipe_length]; exact hev)], a, dx, nm, v, rfl, T, by rw [upd_ne haD]; exact h1, by rw [upd_ne hdD]; exact h2, vs.take j, upd_same, by rw [List.length_take]; omega, ?_⟩
    rw [L2.upd_upd, List.take_succ, hv]
    rfl
  · have e : j = vs.length := by omega
    subst e
    refine .inl ⟨⟨as, SqL.of hp', by omega⟩, ?_⟩
    rw [List.take_length]
    exact q Dp hD
theorem sim_exs {i ev : Nat} {ds : List D} {vs : List V} {ta : TA} {es : List Expr} {tr : TE} {wr : WE} {tb : TS} {wb : WS} {r : R2} (hx : XA X G es ta vs) (rep : ∀ Hi, Reps G.K Hi vs ds) (hs : Sem2 G r oNe) (hr : SimE G W tr wr) (hb : SimS G W tb wb) :
    SimS G W (tSeq (tAsg (tLst ta) (gName i)) (tIfS (tTest (tOp r (tLc (iList G.K (tVar i)) (gName ev) tYes (tIdx G.K (tVar ev)) [ev]) tr)) tb tNext)) (wExs i ev ds wr wb) := by
  intro C Hi σ H Γ Dn Dd Xd c hw h1 h2 h3 h4 h5
  obtain ⟨hi, hdl, ok, hw⟩ := hw
  have hvd : vs.length = ds.length := (rep Hi).length
  refine hx.run C Hi σ H Γ _ c fun as H1 Hi1 e1 x1 c1 ea => ⟨by rw [ea.len]; omega, fun p hp => ?_⟩
  have x2 : Ext H1 (upd H1 p (.lst as)) := Ext.new hp
  have c2 : Rel G C Hi1 σ (upd H1 p (.lst as)) Γ := c1.grow x2 (Ext.refl _) (c1.imm.trans x2) fun _ _ z => .inl z
  have c3 := c2.put_no (x := some (.ref p)) hi
  have ea2 : ExAs G.K Hi1 (upd H1 p (.lst as)) as vs := ea.grow x2
  have hev := (okW_lt ok ev (by simp)).1
  rw [c3.len] at hev
  show tLc (iList G.K (tVar i)) (gName ev) tYes (tIdx G.K (tVar ev)) [ev] (σ.set i (some (.ref p))) (upd H1 p (.lst as)) (fun x H1 => tr (σ.set i (some (.ref p))) H1 fun y H2 => r x y H2 fun z H' => ∃ k, z = .bl k ∧ (if k = true then tb Dn (σ.set i (some (.ref p))) H' else tNext Dn (σ.set i (some (.ref p))) H'))
  refine exs_comp upd_same (by rw [List.getElem?_set_self (by rw [← c1.len]; exact hi)]) hev ea2 (by omega) fun Dp hD => ?_
  have c4 := c3.alloc hD (d := .list ds) (.lst upd_same (rep Hi1))
  have o1 : Out G C Hi1 (σ.set i (some (.ref p))) (upd (upd H1 p (.lst as)) Dp (.lst vs)) (Γ.set i .no) (.ref Dp) (.ow (.list ds)) := ⟨c3.len, c4⟩
  obtain ⟨Hi2, e2, c5, hh⟩ := o1.hold
  refine hr C Hi2 _ _ _ _ _ Xd c5 hw (fun v3 r3 H4 Hi4 Γ4 e4 o4 q4 => ?_) fun x cl d H' Hi' Γ' e c' hx q => h5 x cl d _ H' Hi' Γ' ((e1.trans e2).trans e) c' hx q
  obtain ⟨Hi5, e5, c6, h6⟩ := o4.hold
  obtain ⟨d, b2, q5⟩ := h6.read c6 q4
  obtain ⟨dl, bl, ql⟩ := (hh.mono (e4.trans e5)).read (k := fun d => d = .list ds) c6 rfl
  subst ql
  refine hs c6 bl b2 q5 fun v rr H' Hi' e o q => ?_
  obtain ⟨Hi6, e6, c7, h7⟩ := o.hold
  obtain ⟨d7, b7, q⟩ := h7.read c7 q
  obtain ⟨b, rfl, q⟩ := isB_inv q
  have ee := ((((e1.trans e2).trans e4).trans e5).trans e).trans e6
  refine ⟨b, b7.bl, ?_⟩
  cases b with
  | true =>
    exact hb C Hi6 _ H' Γ4 Dn Dd Xd c7 q (fun σ' H' Hi' Γ' e => h1 σ' H' Hi' Γ' (ee.trans e)) (fun v r σ' H' Hi' Γ' e => h2 v r σ' H' Hi' Γ' (ee.trans e))
      (fun σ' H' Hi' Γ' e => h3 σ' H' Hi' Γ' (ee.trans e)) (fun σ' H' Hi' Γ' e => h4 σ' H' Hi' Γ' (ee.trans e)) fun x c d σ' H' Hi' Γ' e c' => h5 x c d σ' H' Hi' Γ' (ee.trans e) c'
  | false => exact h1 _ H' Hi6 Γ4 ee c7 q
theorem db_exs {scope : Scope} {x y : Str} {i ev : Nat} {ds : List D} {vs : List V} {ta : TA} {es : List Expr} {tr : TE} {wr : WE} {tb us : TS} {wb wu : WS} {r : R2} {body sts : List Stmt} {er tg elt it : Expr} {px pl pa pc p2 p3 p4 : Pos} {wg : WG} {wi : WI} {w0 : WE}
    (hK : X.K = G.K) (hc : X.calm = true) (hN : X.N.Nodup) (hx : XA X G es ta vs) (rep : ∀ Hi, Reps G.K Hi vs ds) (hop : C2 X G .NotEq r oNe) (hr : DE X G W er tr wr) (hb : DB X G W body tb wb) (h2 : DB X G W sts us wu)
    (hi : DI X G W tg it (iList G.K (tVar i)) wi) (ok : BlkOk X.N X.env.scope scope [(y, ev)])
    (hg : ∀ s H C cl fp, DGw (Blk X scope s H C cl fp) G [ev] tg (gName ev) wg) (he : ∀ s H C cl fp, DE (Blk X scope s H C cl fp) G noW elt (tVar ev) w0)
    (hab : ∀ s H C cl fp, attributeBase elt "index" (Blk X scope s H C cl fp).env (eval elt (Blk X scope s H C cl fp).env) = eval elt (Blk X scope s H C cl fp).env := by intros; rfl)
    (hs : ∀ x, foldedSetIterable it X.env x = pure x := by intro _; rfl)
    (hi0 : X.N[i]? = some x := by rfl) (hl : L2.Loc X.env.scope x := by first | exact .inl rfl | exact .inr rfl) (hsw : swapsWith (.List es pl) (some (.Name x px)) pa.line X.env = pure false := by rfl)
    (hf : X.fn x = true ∨ X.env.scope.names.lookup x = some .local := by first | exact .inl rfl | exact .inr rfl) (hm : behindInMarks .NotEq er = false := by first | exact nobehind _ (by decide) (by decide) | rfl) :
    DB X G W (.Assign [.Name x px] (.List es pl) pa :: .If (.Compare (.ListComp (.Attribute elt "index" p4) [⟨tg, it, [], 0⟩] scope p3) [.NotEq] [er] p2) body [] pc :: sts)
      (tSeq (tAsg (tLst ta) (gName i)) (tSeq (tIfS (tTest (tOp r (tLc (iList G.K (tVar i)) (gName ev) tYes (tIdx G.K (tVar ev)) [ev]) tr)) tb tNext) us)) (wSeq (wExs i ev ds wr wb) wu) := by
  refine ⟨pss_cons (ps_set hN hi0 hl (pe_lst hx.pe) hsw hf) (pss_cons (ps_if (pt_cmpR hop.op (pe_lc hc hN hi.pe ok (fun s H C cl fp => (hg s H C cl fp).pe) (fun s H C cl fp => pts_nil) (fun s H C cl fp => ?_) hs) hr.pe hm) hb.pe pss_nil) h2.pe), ?_⟩
  · have := pe_idx (pos := p4) (he s H C cl fp).pe (hab s H C cl fp)
    have hk : (Blk X scope s H C cl fp).K = G.K := hK
    rwa [hk] at this
  · have := sim_seq (sim_exs (i := i) (ev := ev) hx rep hop.sem hr.sim hb.sim) h2.sim
    exact this
end
@[simp ↓] theorem ev_wIxN (we : WE) (Γ : Ev) (Q : R → Ev → Prop) (X : XW) : wIxN we Γ Q X = we Γ (fun r Γ1 => rdW r Γ1 fun d => isI d fun i => Q (.sh (.int i)) Γ1) X := rfl
@[simp ↓] theorem ev_wIxN0 (Γ : Ev) (Q : R → Ev → Prop) (X : XW) : wIxN0 Γ Q X = Q (.sh .none) Γ := rfl
@[simp ↓] theorem ev_wExs (i ev : Nat) (ds : List D) (wr : WE) (wb : WS) (Γ : Ev) (Dd : WD) (X : XW) : wExs i ev ds wr wb Γ Dd X = (i < Γ.length ∧ ds.length < sizeLine ∧ okW (Γ.set i .no) [ev] ∧ wr (Γ.set i .no) (fun r Γ1 => rdW r Γ1 fun d => oNe (.list ds) d fun r2 => rdW r2 Γ1 fun z => isB z fun b => if b = true then wb Γ1 Dd X else Dd.nx Γ1) X) := rfl
end VL

set_option Elab.async false
set_option linter.all false
set_option maxRecDepth 100000
set_option pp.maxSteps 600
set_option maxHeartbeats 400000
namespace K56
open PySem L2 VL SC
def fs_parse_scoreY : FS := fun io ds Q X => io = none ∧ ((∃ x : Str, ds = [.str x] ∧ Asc (cs x) ∧ NoLS (cs x) ∧ x.length ≤ 900000 ∧ (cs x).count 32 ≤ 280 ∧
  (∀ l, ok [] l → l.length ≤ 281 → fmtS l = x → Q (.ow (.list (sc l))) none) ∧ ∀ n, BadAt x n → X ⟨"ParseError", some (.int (n : Int))⟩ none) ∨ ∃ d, ds = [d] ∧ (∀ s, d ≠ .str s) ∧ X ⟨"ParseError", some .non⟩ none)
def w_parse_scoreY : WS := wSeq (wIfS (wNot (wT (wIsi "str" (wVar 0)))) (wRaiseI0 "ParseError") (wNext)) (wSeq (wSet 1 (wLst (wNil))) (wSeq (wSet 2 (wDict0)) (wSeq (wFor (wiA enumD (wCons (wIf (wT (wOp oNe (wVar 0) (wC (.str "")))) (wM1 oSplit (wVar 0) (wC (.str " "))) (wLst (wNil))) (wNil))) (wgTup 2 (wgCons (wgName 3) (wgCons (wgName 4) (wgNil)))) (wSeq (wSet 5 (wCallB2 fs_parse_itemX [] (wCons (wVar 4) (wCons (wVar 2) (wNil))))) (wSeq (wIfS (wT (wOp oIsN (wVar 5) (wC .none))) (wRaiseI "ParseError" (wVar 3)) (wNext)) (wSeq (wIfS (wT (wOp oEq (wOp oIx (wVar 5) (wC (.int 0))) (wC (.str "mark")))) (wDPut 2 (wOp oIx (wVar 5) (wC (.int 1))) (wVar 3)) (wNext)) (wDrop (wMut 1 fAppend (wCons (wVar 5) wNil))))))) (wRet (wVar 1)))))
theorem fv_parse_scoreY : FnV fs_parse_scoreY 6 w_parse_scoreY := by
  rintro io ds Q X ⟨rfl, ⟨x, rfl, ha, hn, hxl, hcn, q, qx⟩ | ⟨d, rfl, hd, q⟩⟩
  rotate_left
  · show w_parse_scoreY [.sh d, .no, .no, .no, .no, .no] _ _
    have t1 : isT "int" "str" = false ∧ isT "bool" "str" = false ∧ isT "list" "str" = false ∧ isT "tuple" "str" = false ∧ isT "dict" "str" = false ∧ isT "NoneType" "str" = false := by decide +kernel
    obtain ⟨t1, t2, t3, t4, t5, t6⟩ := t1
    cases d with
    | str s => exact absurd rfl (hd s)
    | int i => simp [w_parse_scoreY, t1, -ev_wFor]; exact q
    | bool i => simp [w_parse_scoreY, t2, -ev_wFor]; exact q
    | list i => simp [w_parse_scoreY, t3, -ev_wFor]; exact q
    | tuple i => simp [w_parse_scoreY, t4, -ev_wFor]; exact q
    | dict i => simp [w_parse_scoreY, t5, -ev_wFor]; exact q
    | none => simp [w_parse_scoreY, t6, -ev_wFor]; exact q
  show w_parse_scoreY [.sh (.str x), .no, .no, .no, .no, .no] _ _
  have hso : SeqAt.shaped (.str x) = true := shaped_str (strOk_of ha)
  have s0 : SeqAt.shaped (.str "") = true := by decide +kernel
  have hwl : (wd x).length ≤ 281 := Nat.le_trans (wd_len x) (by omega)
  have sl : (" " : Str).length = 1 := by decide +kernel
  -- the words
  suffices hw : ∀ (X' : XW) (D : VL.WD) (g : WG) (b : WS), loopW g b D X' (enumD ((wd x).map .str)) [.sh (.str x), .ow (.list []), .ow (.dict []), .no, .no, .no] →
      wFor (wiA enumD (wCons (wIf (wT (wOp oNe (wVar 0) (wC (.str "")))) (wM1 oSplit (wVar 0) (wC (.str " "))) (wLst (wNil))) (wNil))) g b [.sh (.str x), .ow (.list []), .ow (.dict []), .no, .no, .no] D X' by
    simp [w_parse_scoreY, isT, -ev_wFor]
    refine hw _ _ _ _ ?_
    refine loop_inv (fun i Γ => ∃ (l : List SC.It) (ps : List (D × D)) (a3 a4 a5 : Sl), Γ = [.sh (.str x), .ow (.list (sc l)), .ow (.dict ps), a3, a4, a5] ∧ l.map itS = (wd x).take i ∧ ok [] l ∧ ps.length ≤ i ∧ ∀ s, (dget ps (.str s)).isSome = true ↔ s ∈ mk [] l) ⟨[], [], _, _, _, rfl, rfl, trivial, Nat.le_refl _, fun s => by simp [dget, mk]⟩ ?_ ?_
    · rintro i d Γ k hd ⟨l, ps, a3, a4, a5, rfl, hl, hok, hpl, hM⟩ hk
      obtain ⟨e, he, rfl⟩ := enumD_get hd
      obtain ⟨y, hy, rfl⟩ : ∃ y, (wd x)[i]? = some y ∧ e = .str y := by
        rw [List.getElem?_map] at he
        cases z : (wd x)[i]? with
        | none => simp [z] at he
        | some it => exact ⟨it, rfl, by simpa [z] using he.symm⟩
      have hi := (List.getElem?_eq_some_iff.mp hy).1
      have hym := List.mem_of_getElem? hy
      have hyi := wd_infix hym
      have hyl : y.length ≤ 900000 := by
        have := hyi.length_le
        rw [cs_len, cs_len] at this
        omega
      have hll : l.length ≤ i := by
        have := congrArg List.length hl
        rw [List.length_map, List.length_take] at this
        omega
      have hz1 : (sc l).length < sizeLine := small (by rw [sc_length]; omega)
      have hz2 : ps.length < sizeLine := small (by omega)
      simp
      refine ⟨rfl, y, ps, mk [] l, rfl, ha.infix hyi, hn.infix hyi, hyl, hM, fun s hs => mk_valid hok (fun _ z => nomatch z) hs, fun it hit hi2 => ?_, fun hno => ?_⟩
      · have htk : (l ++ [it]).map itS = (wd x).take (i + 1) := by
          rw [List.take_succ, hy, List.map_append, hl]
          simp [hit]
        have hok2 := ok_snoc hok hi2
        have hsc : sc (l ++ [it]) = sc l ++ [it.d] := by simp [sc]
        have hmk : mk [] (l ++ [it]) = mk (mk [] l) [it] := mk_app l [it] []
        cases it with
        | bar z =>
          simp [It.d, flatD, sh_bar, sh_mark, eqv_str, bm]
          exact ⟨hz1, hk _ ⟨_, ps, _, _, _, by rw [hsc]; rfl, htk, hok2, by omega, fun s => by rw [hmk]; exact hM s⟩⟩
        | mark z =>
          simp [It.d, flatD, sh_mark, eqv_str, mm]
          refine ⟨hz2, hz1, hk _ ⟨_, _, _, _, _, by rw [hsc]; rfl, htk, hok2, Nat.le_trans (dput_len _ _ _) (by omega), fun s => ?_⟩⟩
          rw [hmk, dget_putS]
          show _ ↔ s ∈ z :: mk [] l
          rw [List.mem_cons, ← hM s]
          by_cases e : z = s
          · simp [e]
          · simp [e, Ne.symm e]
        | rep z c =>
          simp [It.d, flatD, sh_rep, sh_mark, eqv_str, rm]
          exact ⟨hz1, hk _ ⟨_, ps, _, _, _, by rw [hsc]; rfl, htk, hok2, by omega, fun s => by rw [hmk]; exact hM s⟩⟩
      · simp [flatD]
        exact ⟨rfl, qx i ⟨l, y, hl, hok, hy, hno⟩⟩
    · rintro Γ ⟨l, ps, a3, a4, a5, rfl, hl, hok, hpl, hM⟩
      rw [enumD_length, List.length_map, List.take_length] at hl
      have hf : fmtS l = x := by
        unfold fmtS
        rw [hl, wd_join]
      simp
      exact q l hok (by have := congrArg List.length hl; rw [List.length_map] at this; omega) hf
  intro X' D g b h
  unfold wd at h
  by_cases hne : x = ""
  · rw [if_pos hne] at h
    subst hne
    simp [ev_wFor, s0, eqv_str]
    exact h
  · rw [if_neg hne] at h
    simp [ev_wFor, hso, s0, eqv_str, hne, oSplit, sl]
    exact ⟨smallE (by omega), h⟩

def fs_law_is_name : FS := fun io ds Q _ => io = none ∧ ∃ x : Str, ds = [.str x] ∧ Asc (cs x) ∧ x.length ≤ 900000 ∧ Q (.sh (.bool (nameB x))) none
def w_law_is_name : WS := wRet (wAndV (wChain (oIB fun i j => decide (i ≤ j)) (oIB fun i j => decide (i ≤ j)) (wC (.int 1)) (wCB (o1 oLen) (wCons (wVar 0) (wNil))) (wC (.int 8))) (wOp oEq (wLc [1] (wiS (wVar 0)) (wgName 1) (wT (wOp (oIn true) (wVar 1) (wC (.str "abcdefghijklmnopqrstuvwxyz")))) (wVar 1)) (wLst (wNil))))
theorem signs_cs (x : Str) : signsD x = (cs x).map fun c => PyData.str ⟨#[c]⟩ := rfl
theorem eqv_nil (l : List D) : PyData.eqv (.list l) (.list []) = l.isEmpty := by
  cases l <;> simp [PyData.eqv, PyData.eqvAll]
theorem sh_nil : SeqAt.shaped (.list []) = true := by decide +kernel
theorem sh_signs {l : List Nat} (h : ∀ k ∈ l, k < 128) : SeqAt.shaped (.list (l.map fun c => PyData.str ⟨#[c]⟩)) = true := shaped_of (n := 0) (fun y hy => by
  obtain ⟨c, hc, rfl⟩ := List.mem_map.mp hy
  exact ⟨shaped_str (strOk_of fun k hk => by
    have : k = c := by simpa [cs] using hk
    have := h c hc
    omega), by simp [PyData.depth]⟩) (by decide)
theorem fv_law_is_name : FnV fs_law_is_name 2 w_law_is_name := by
  rintro io ds Q X ⟨rfl, x, rfl, ha, hl, q⟩
  show w_law_is_name [.sh (.str x), .no] _ _
  have hcl : (cs x).length ≤ 900000 := by rw [cs_len]; omega
  by_cases e1 : (1 : Int) ≤ (x.length : Int)
  · by_cases e2 : (x.length : Int) ≤ 8
    · simp [w_law_is_name, e1, e2, ev_wLc]
      refine ⟨smallE (by omega), ⟨trivial, trivial⟩, ?_⟩
      rw [signs_cs]
      refine lcm_filt (cs x) (fun c => .str ⟨#[c]⟩) (fun c => .str ⟨#[c]⟩) (fun c => !letter c) (by omega) (fun a acc k _ hz h1 h2 => ?_) ?_
      · cases hb : letter a with
        | true =>
          have := h2 (by simp [hb])
          have hm : a ∈ ("abcdefghijklmnopqrstuvwxyz" : Str).cps := by simpa [letter] using hb
          simp [lcT, wipeE, hm]
          exact this
        | false =>
          have := h1 (by simp [hb])
          have hm : a ∉ ("abcdefghijklmnopqrstuvwxyz" : Str).cps := by simpa [letter] using hb
          simp [lcT, wipeE, hm, hz]
          exact this
      · simp [restE, eqv_nil, sh_nil]
        refine ⟨sh_signs fun k hk => ha k (List.mem_filter.mp hk).1, ?_⟩
        have : nameB x = ((List.filter (fun c => !letter c) (cs x)).isEmpty) := by
          unfold nameB
          rw [show (cs x) = x.cps.toList from rfl]
          have h1 : decide (1 ≤ x.length) = true := decide_eq_true (by omega)
          have h2 : decide (x.length ≤ 8) = true := decide_eq_true (by omega)
          rw [h1, h2]
          simp only [Bool.true_and]
          rw [Bool.eq_iff_iff, List.isEmpty_iff, List.filter_eq_nil_iff, List.all_eq_true]
          simp only [Bool.not_eq_true', Bool.not_eq_false]
        rw [this] at q
        exact q
    · have : nameB x = false := by
        unfold nameB
        rw [show decide (x.length ≤ 8) = false from decide_eq_false (by omega)]
        simp
      rw [this] at q
      simp [w_law_is_name, e1, e2]
      exact ⟨smallE (by omega), q⟩
  · have : nameB x = false := by
      unfold nameB
      rw [show decide (1 ≤ x.length) = false from decide_eq_false (by omega)]
      simp
    rw [this] at q
    simp [w_law_is_name, e1]
    exact ⟨smallE (by omega), q⟩
def fs_law_integer : FS := fun io ds Q _ => io = none ∧ ∃ x : Str, ds = [.str x] ∧ Asc (cs x) ∧ NoLongW (cs x) ∧ x.length ≤ 900000 ∧ Q (.sh (numD x)) none
def w_law_integer : WS := wSeq (wIfS (wOr (wT (wOp oEq (wVar 0) (wC (.str "")))) (wT (wOp oNe (wLc [1] (wiS (wVar 0)) (wgName 1) (wT (wOp (oIn true) (wVar 1) (wC (.str "0123456789")))) (wVar 1)) (wLst (wNil))))) (wRet (wC .none)) (wNext)) (wRet (wIf (wAnd (wT (wOp oEq (wOp oIx (wVar 0) (wC (.int 0))) (wC (.str "0")))) (wT (wOp oNe (wVar 0) (wC (.str "0"))))) (wC .none) (wCB (o1 oIntS) (wCons (wVar 0) (wNil)))))
theorem fv_law_integer : FnV fs_law_integer 2 w_law_integer := by
  rintro io ds Q X ⟨rfl, x, rfl, ha, hn, hxl, q⟩
  show w_law_integer [.sh (.str x), .no] _ _
  have q1 : ∀ n : Nat, cs x = TL.numL n → Q (.sh (.int (n : Int))) none := fun n e => by rw [numD_some e] at q; exact q
  have q2 : (∀ n, cs x ≠ TL.numL n) → Q (.sh .none) none := fun e => by rw [numD_none e] at q; exact q
  have hso : SeqAt.shaped (.str x) = true := shaped_str (strOk_of ha)
  have s0 : SeqAt.shaped (.str "") = true := by decide +kernel
  have s48 : SeqAt.shaped (.str "0") = true := by decide +kernel
  by_cases hx0 : x = ""
  · subst hx0
    simp [w_law_integer, s0, eqv_str]
    exact q2 fun n h => TL.numL_ne n (h.symm.trans (by decide +kernel))
  · simp [w_law_integer, hso, s0, eqv_str, hx0]
    rw [ev_wLc]
    simp [okW, wipeE]
    rw [signs_cs]
    have hl : (cs x).length ≤ 1000000 := by rw [cs_len]; omega
    refine lcm_filt (cs x) (fun c => .str ⟨#[c]⟩) (fun c => .str ⟨#[c]⟩) (fun c => !decide (c ∈ ("0123456789" : Str).cps)) hl (fun a acc k _ hz h1 h2 => ?_) ?_
    · by_cases hm : a ∈ ("0123456789" : Str).cps
      · simp [lcT, wipeE, hm]
        exact h2 (by simp [hm])
      · simp [lcT, wipeE, hm, hz]
        exact h1 (by simp [hm])
    · simp [restE, eqv_nil, sh_nil]
      refine ⟨sh_signs fun k hk => ha k (List.mem_filter.mp hk).1, ?_⟩
      by_cases hd : ∀ k ∈ cs x, 48 ≤ k ∧ k ≤ 57
      · have hall : ∀ k ∈ cs x, k ∈ ("0123456789" : Str).cps := digits_of.mpr hd
        rw [if_pos fun a ha => hall a (by simpa using ha)]
        cases e : cs x with
        | nil => exact absurd (str_ext (x := x) (y := "") (by rw [e]; decide +kernel)) hx0
        | cons a r =>
          have ha1 := hd a (by rw [e]; exact List.mem_cons_self)
          refine ⟨smallE (by omega), ?_⟩
          have hat : atI x.cps.toList 0 = some a := by
            rw [show x.cps.toList = a :: r from e]
            simp [atI, ixN]
          rw [hat]
          have sa : SeqAt.shaped (.str (⟨#[a]⟩ : Str)) = true := shaped_str (strOk_of fun k hk => by
            have : k = a := by simpa [cs] using hk
            omega)
          have e0 : cs "0" = [48] := by decide +kernel
          have ea : ((⟨#[a]⟩ : Str) = "0") ↔ a = 48 := ⟨fun z => by
            have := congrArg cs z
            rw [e0] at this
            simpa [cs] using this, fun z => by subst z; exact str_ext (by rw [e0])⟩
          have ex : x = "0" ↔ a = 48 ∧ r = [] := ⟨fun z => by
            rw [z, e0] at e
            injection e with e1 e2
            exact ⟨e1.symm, e2.symm⟩, fun ⟨z1, z2⟩ => str_ext (by rw [e, e0, z1, z2])⟩
          have hlen : (cs x).length ≤ 600 := hn _ (List.infix_refl _) hd
          by_cases hz : a = 48 ∧ ¬ r = []
          · have h1 : (⟨#[a]⟩ : Str) = "0" := ea.mpr hz.1
            have h2 : ¬ x = "0" := fun z => hz.2 (ex.mp z).2
            simp [sa, s48, hso, eqv_str, h1, h2]
            refine q2 fun n h => ?_
            rw [e] at h
            have : n = 0 := by
              rcases Nat.eq_zero_or_pos n with z | z
              · exact z
              · exact absurd (by rw [← h, hz.1]; rfl) (num_head n z)
            rw [this, TL.numL_lt (by decide)] at h
            injection h with _ h
            exact hz.2 h
          · have hnb : TL.numL (NumText.digitsVal (cs x)) = cs x := num_back hd (by rw [e]; simp) (by
              rw [e]
              by_cases h48 : a = 48
              · right
                have : r = [] := Classical.byContradiction fun z => hz ⟨h48, z⟩
                rw [h48, this]
              · left
                simpa using h48)
            have hval : intText? x = some ((NumText.digitsVal (cs x) : Nat) : Int) := intText_digits hd (show cs x ≠ [] by rw [e]; simp) (by rw [← cs_len]; omega)
            have hq := q1 _ hnb.symm
            by_cases h48 : a = 48
            · have h1 : (⟨#[a]⟩ : Str) = "0" := ea.mpr h48
              have hr : r = [] := Classical.byContradiction fun z => hz ⟨h48, z⟩
              have h2 : x = "0" := ex.mpr ⟨h48, hr⟩
              simp [sa, s48, hso, eqv_str, h1, h2]
              rw [h2] at hval hq
              exact ⟨_, hval, by decide +kernel, hq⟩
            · have h1 : ¬ (⟨#[a]⟩ : Str) = "0" := fun z => h48 (ea.mp z)
              simp [sa, s48, hso, eqv_str, h1]
              exact ⟨_, hval, by rw [← cs_len]; omega, hq⟩
      · rw [if_neg fun z => hd (digits_of.mp fun k hk => z k (by simpa using hk))]
        refine q2 fun n h => hd ?_
        rw [h]
        exact TL.numL_digits n
def fs_law_has_long_number : FS := fun io ds Q _ => io = none ∧ ∃ x : Str, ds = [.str x] ∧ x.length ≤ 900000 ∧ ∀ b : Bool, (b = false → NoLong (cs x)) → Q (.sh (.bool b)) none
def w_law_has_long_number : WS := wSeq (wPar [1, 2] (wsCons (wC (.int 0)) (wsCons (wC (.int 0)) (wsNil)))) (wSeq (wFor (wiS (wVar 0)) (wgName 3) (wSeq (wSet 1 (wIf (wT (wOp (oIn false) (wVar 3) (wC (.str "0123456789")))) (wOp oAdd (wVar 1) (wC (.int 1))) (wC (.int 0)))) (wSet 2 (wCB (o2 oMax) (wCons (wVar 2) (wCons (wVar 1) (wNil))))))) (wRet (wOp (oIB fun i j => decide (j < i)) (wVar 2) (wC (.int 9)))))
theorem fv_law_has_long_number : FnV fs_law_has_long_number 4 w_law_has_long_number := by
  rintro io ds Q X ⟨rfl, x, rfl, hxl, q⟩
  show w_law_has_long_number [.sh (.str x), .no, .no, .no] _ _
  simp [w_law_has_long_number]
  have hsg : signsD x = (cs x).map fun c => PyData.str ⟨#[c]⟩ := rfl
  rw [hsg]
  refine loop_inv (fun i Γ => ∃ (a b : Int) (a3 : Sl), Γ = [.sh (.str x), .sh (.int a), .sh (.int b), a3] ∧ (∀ ys, ys <:+ (cs x).take i → (∀ k ∈ ys, 48 ≤ k ∧ k ≤ 57) → (ys.length : Int) ≤ a) ∧ ∀ ys, ys <:+: (cs x).take i → (∀ k ∈ ys, 48 ≤ k ∧ k ≤ 57) → (ys.length : Int) ≤ b)
    ⟨0, 0, _, rfl, fun ys h _ => by simp at h; simp [h], fun ys h _ => by simp at h; simp [h]⟩ ?_ ?_
  · rintro i d Γ k hd ⟨a, b, a3, rfl, hs, hi⟩ hk
    obtain ⟨c, hc, rfl⟩ : ∃ c, (cs x)[i]? = some c ∧ d = .str ⟨#[c]⟩ := by
      rw [List.getElem?_map] at hd
      cases z : (cs x)[i]? with
      | none => simp [z] at hd
      | some it => exact ⟨it, rfl, by simpa [z] using hd.symm⟩
    have htk : (cs x).take (i + 1) = (cs x).take i ++ [c] := by rw [List.take_succ, hc]; rfl
    have hten : c ∈ ("0123456789" : Str).cps ↔ 48 ≤ c ∧ c ≤ 57 := by
      rw [← Array.mem_toList_iff, ten_digits]
      simp
      omega
    have h1 := noLong_snoc (c := c) hs hi
    have h2 : ∀ m : Int, (if 48 ≤ c ∧ c ≤ 57 then a + 1 else 0) ≤ m → b ≤ m → ∀ ys, ys <:+: (cs x).take i ++ [c] → (∀ k ∈ ys, 48 ≤ k ∧ k ≤ 57) → (ys.length : Int) ≤ m := fun m m1 m2 ys hy hd => by
      rcases List.infix_concat_iff.mp hy with hy | hy
      · exact Int.le_trans (h1 ys hy hd) m1
      · exact Int.le_trans (hi ys hy hd) m2
    rw [← htk] at h1 h2
    simp [hten]
    by_cases hcd : 48 ≤ c ∧ c ≤ 57
    · rw [if_pos hcd] at h1 h2
      simp [hcd]
      split
      · exact hk _ ⟨_, _, _, rfl, h1, h2 _ (by omega) (by omega)⟩
      · exact hk _ ⟨_, _, _, rfl, h1, h2 _ (by omega) (by omega)⟩
    · rw [if_neg hcd] at h1 h2
      simp [hcd]
      split
      · exact hk _ ⟨_, _, _, rfl, h1, h2 _ (by omega) (by omega)⟩
      · exact hk _ ⟨_, _, _, rfl, h1, h2 _ (by omega) (by omega)⟩
  · rintro Γ ⟨a, b, a3, rfl, hs, hi⟩
    simp
    refine q _ fun hb ys hy hd => ?_
    have hb := of_decide_eq_false hb
    rw [List.length_map, List.take_length] at hi
    have := hi ys hy hd
    omega
abbrev fs_law_same : FS := fsRec_law_same 4
def w_law_same (fsr : FS) : WS := wSeq (wIfS (wOr (wT (wIsi "list" (wVar 1))) (wT (wIsi "tuple" (wVar 1)))) (wSeq (wIfS (wOr (wT (wOp oNe (wIsi "list" (wVar 0)) (wIsi "list" (wVar 1)))) (wT (wOp oNe (wIsi "tuple" (wVar 0)) (wIsi "tuple" (wVar 1))))) (wRet (wC (.bool false))) (wNext)) (wRet (wAndV (wOp oEq (wCB (o1 oLen) (wCons (wVar 0) (wNil))) (wCB (o1 oLen) (wCons (wVar 1) (wNil)))) (wCB (o1 oAll) (wCons (wLc [2, 3] (wiZA (wCons (wVar 0) (wCons (wVar 1) (wNil)))) (wgTup 2 (wgCons (wgName 2) (wgCons (wgName 3) (wgNil)))) (wYes) (wCall fsr [] (wCons (wVar 2) (wCons (wVar 3) (wNil))))) (wNil)))))) (wNext)) (wSeq (wIfS (wOr (wT (wOp oIsN (wVar 1) (wC .none))) (wT (wOp oIsN (wVar 0) (wC .none)))) (wRet (wAndV (wOp oIsN (wVar 1) (wC .none)) (wOp oIsN (wVar 0) (wC .none)))) (wNext)) (wSeq (wIfS (wOr (wT (wOp oNe (wIsi "bool" (wVar 1)) (wIsi "bool" (wVar 0)))) (wT (wOp oNe (wIsi "str" (wVar 1)) (wIsi "str" (wVar 0))))) (wRet (wC (.bool false))) (wNext)) (wRet (wOp oEq (wVar 0) (wVar 1)))))
theorem fvRec_law_same (n : Nat) : FnV (fsRec_law_same (n + 1)) 4 (w_law_same (fsRec_law_same n)) := by
  rintro io ds Q X ⟨rfl, a, rfl, ha, q⟩
  show w_law_same (fsRec_law_same n) [.sh a, .sh a, .no, .no] _ _
  have sb : ∀ b : Bool, SeqAt.shaped (.bool b) = true := fun b => by cases b <;> decide +kernel
  have eb : ∀ b : Bool, PyData.eqv (.bool b) (.bool b) = true := fun b => by cases b <;> decide +kernel
  have sn : SeqAt.shaped .none = true := by decide +kernel
  have en : PyData.eqv .none .none = true := by decide +kernel
  have t1 : isT "int" "list" = false ∧ isT "int" "tuple" = false ∧ isT "bool" "list" = false ∧ isT "bool" "tuple" = false ∧ isT "str" "list" = false ∧ isT "str" "tuple" = false ∧ isT "NoneType" "list" = false ∧ isT "NoneType" "tuple" = false := by decide +kernel
  obtain ⟨t1, t2, t3, t4, t5, t6, t7, t8⟩ := t1
  rcases ha with ha | ⟨xs, ha, hl, hx⟩
  · cases a with
    | int i =>
      simp [w_law_same, t1, t2, sb, eb, shaped_int, eqv_int]
      exact q
    | bool b =>
      simp [w_law_same, t3, t4, sb, eb]
      exact q
    | str s =>
      have hs : SeqAt.shaped (.str s) = true := shaped_str ha
      simp [w_law_same, t5, t6, sb, eb, hs, eqv_str]
      exact q
    | none =>
      simp [w_law_same, t7, t8, sb, eb, sn, en]
      exact q
    | _ => exact ha.elim
  · have ez : List.zipWith (fun x y => PyData.tuple [x, y]) xs xs = xs.map fun x => PyData.tuple [x, x] := by
      clear hl hx
      induction xs with
      | nil => rfl
      | cons x xs ih => simp [ih]
    rcases ha with rfl | rfl
    all_goals
      simp [w_law_same, sb, eb, shaped_int, eqv_int, ev_wLc, okW, wipeE, ez]
      refine lcm_map xs (fun x => .tuple [x, x]) (fun _ => .bool true) (by omega) (fun x acc k hm hz hk => ?_) ?_
      · simp [lcT, wipeE]
        refine ⟨rfl, x, rfl, hx x hm, ?_⟩
        simp
        exact ⟨hz, hk⟩
      · simp [restE]
        refine ⟨xs.map fun _ => true, by rw [List.map_map]; rfl, ?_⟩
        have : (xs.map fun _ => true).all id = true := List.all_eq_true.mpr fun b hb => by
          obtain ⟨_, _, rfl⟩ := List.mem_map.mp hb
          rfl
        rw [this]
        exact q
theorem it_same {it : SC.It} (h : it.shows) (n : Nat) : SameT (n + 2) it.d := by
  have ob : PyData.strOk "bar" = true := by decide +kernel
  have om : PyData.strOk "mark" = true := by decide +kernel
  have orr : PyData.strOk "repeat" = true := by decide +kernel
  refine .inr ?_
  cases it with
  | bar x => exact ⟨_, .inr rfl, by simp, fun y hy => .inl (by
      simp only [List.mem_cons, List.not_mem_nil, or_false] at hy
      rcases hy with rfl | rfl
      · exact ob
      · exact name_strOk h)⟩
  | mark x => exact ⟨_, .inr rfl, by simp, fun y hy => .inl (by
      simp only [List.mem_cons, List.not_mem_nil, or_false] at hy
      rcases hy with rfl | rfl
      · exact om
      · exact name_strOk h)⟩
  | rep x c => exact ⟨_, .inr rfl, by simp, fun y hy => .inl (by
      simp only [List.mem_cons, List.not_mem_nil, or_false] at hy
      rcases hy with rfl | rfl | rfl
      · exact orr
      · exact name_strOk h.1
      · exact trivial)⟩
theorem sc_same {l : List SC.It} (h : ok [] l) (hl : l.length ≤ 1000) (n : Nat) : SameT (n + 3) (.list (sc l)) := .inr ⟨_, .inl rfl, by rw [sc_length]; omega, fun y hy => by
  obtain ⟨it, hi, rfl⟩ := List.mem_map.mp hy
  exact it_same (ok_shows h it hi) n⟩
theorem star_parts : ∀ l : List Nat, ∃ P : List (List Nat), P ≠ [] ∧ l = TL.joinL [42] P ∧ ∀ p ∈ P, 42 ∉ p
  | [] => ⟨[[]], by simp, rfl, by simp⟩
  | a :: l => by
    obtain ⟨P, h1, h2, h3⟩ := star_parts l
    cases P with
    | nil => exact absurd rfl h1
    | cons p P =>
      by_cases z : a = 42
      · exact ⟨[] :: p :: P, by simp, by rw [h2, z]; rfl, fun y hy => by
          rcases List.mem_cons.mp hy with rfl | hy
          · simp
          · exact h3 y hy⟩
      · refine ⟨(a :: p) :: P, by simp, ?_, fun y hy => ?_⟩
        · cases P with
          | nil => rw [h2]; rfl
          | cons q r => rw [h2]; rfl
        · rcases List.mem_cons.mp hy with rfl | hy
          · have := h3 p List.mem_cons_self
            simp only [List.mem_cons, not_or]
            exact ⟨Ne.symm z, this⟩
          · exact h3 y (List.mem_cons_of_mem _ hy)
theorem split_star {x : Str} {P : List (List Nat)} (h1 : P ≠ []) (h2 : cs x = TL.joinL [42] P) (h3 : ∀ p ∈ P, 42 ∉ p) : Txt.split x "*" = P.map SX.S := by
  have e : SX.S [42] = ("*" : Str) := by decide +kernel
  have h := SX.split_S (a := cs x) (b := [42]) (by simp) (by decide)
  rw [S_cs, e, h2, SX.spl_join h1 h3] at h
  exact h
theorem S_map_inj : ∀ {a b : List (List Nat)}, a.map SX.S = b.map SX.S → a = b
  | [], [], _ => rfl
  | [], _ :: _, h => nomatch h
  | _ :: _, [], h => nomatch h
  | x :: a, y :: b, h => by
    injection h with h1 h2
    rw [SX.S_inj h1, S_map_inj h2]
theorem it_cases {x : Str} {ms : List Str} {it : SC.It} (h : itS it = x) (hok : ok ms [it]) : nameB x = true ∨ (∃ l, cs x = l ++ [58] ∧ nameB (SX.S l) = true ∧ SX.S l ∉ ms) ∨
    ∃ p n, cs x = p ++ ([42] ++ TL.numL n) ∧ 42 ∉ p ∧ SX.S p ∈ ms ∧ n ≠ 0 := by
  cases it with
  | bar y =>
    have : y = x := h
    exact .inl (this ▸ hok.1)
  | mark y => exact .inr (.inl ⟨cs y, by rw [← h, cs_mark], by rw [S_cs]; exact hok.1, by rw [S_cs]; exact hok.2.1⟩)
  | rep y c =>
    obtain ⟨h1, h5, ⟨h2, h6⟩, _⟩ := hok
    obtain ⟨m, rfl⟩ : ∃ m : Nat, c = (m : Int) := ⟨c.toNat, by omega⟩
    exact .inr (.inr ⟨cs y, m, by rw [← h, cs_rep], name_free h1 (by decide +kernel), by rw [S_cs]; exact h5, by omega⟩)
theorem in_strs {L : List Str} {s : Str} : ((L.map PyData.str).any fun z => PyData.eqv z (.str s)) = decide (s ∈ L) := by
  induction L with
  | nil => rfl
  | cons a L ih =>
    rw [List.map_cons, List.any_cons, ih, eqv_str]
    by_cases z : a = s
    · simp [z]
    · simp [z, Ne.symm z]
theorem sh_strs {L : List Str} (h : ∀ s ∈ L, nameB s = true) : SeqAt.shaped (.list (L.map PyData.str)) = true := shaped_of (n := 0) (fun y hy => by
  obtain ⟨c, hc, rfl⟩ := List.mem_map.mp hy
  exact ⟨shaped_str (name_strOk (h c hc)), by simp [PyData.depth]⟩) (by decide)
theorem ev_oInT (a : D) (ds : List D) (k : VL.R → Prop) : oIn true a (.list ds) k = (SeqAt.shaped a = true ∧ SeqAt.shaped (.list ds) = true ∧ k (.sh (.bool (!ds.any fun z => PyData.eqv z a)))) := rfl
theorem ev_oInS (s : Str) (L : List Str) (k : VL.R → Prop) : oIn true (.str s) (.list (L.map .str)) k = (SeqAt.shaped (.str s) = true ∧ SeqAt.shaped (.list (L.map PyData.str)) = true ∧ k (.sh (.bool (!decide (s ∈ L))))) := by
  rw [ev_oInT, in_strs]
def fs_law_item : FS := fun io ds Q _ => io = none ∧ ∃ (x : Str) (L ms : List Str), ds = [.str x, .list (L.map .str)] ∧ Asc (cs x) ∧ NoLong (cs x) ∧ x.length ≤ 900000 ∧ (∀ s, s ∈ L ↔ s ∈ ms) ∧ (∀ s ∈ ms, nameB s = true) ∧
  (∀ it : SC.It, itS it = x → ok ms [it] → Q (.sh it.d) none) ∧ ((∀ it : SC.It, itS it = x → ¬ ok ms [it]) → Q (.sh .none) none)
def w_law_item : WS := wSeq (wIfS (wT (wCall fs_law_is_name [] (wCons (wVar 0) (wNil)))) (wRet (wTup (wCons (wC (.str "bar")) (wCons (wVar 0) (wNil))))) (wNext)) (wSeq (wIfS (wAnd (wT (wOp oEq (wSlS (wVar 0) (wPart (wUn (fun a k => isI a fun i => k (.sh (.int (-i)))) (wC (.int 1)))) (wNoP)) (wC (.str ":")))) (wAnd (wT (wCall fs_law_is_name [] (wCons (wSlS (wVar 0) (wNoP) (wPart (wUn (fun a k => isI a fun i => k (.sh (.int (-i)))) (wC (.int 1))))) (wNil)))) (wT (wOp (oIn true) (wSlS (wVar 0) (wNoP) (wPart (wUn (fun a k => isI a fun i => k (.sh (.int (-i)))) (wC (.int 1))))) (wVar 1))))) (wRet (wTup (wCons (wC (.str "mark")) (wCons (wSlS (wVar 0) (wNoP) (wPart (wUn (fun a k => isI a fun i => k (.sh (.int (-i)))) (wC (.int 1))))) (wNil))))) (wNext)) (wSeq (wSet 2 (wM1 oSplit (wVar 0) (wC (.str "*")))) (wSeq (wIfS (wOr (wT (wOp oNe (wCB (o1 oLen) (wCons (wVar 2) (wNil))) (wC (.int 2)))) (wT (wOp (oIn true) (wOp oIx (wVar 2) (wC (.int 0))) (wVar 1)))) (wRet (wC .none)) (wNext)) (wSeq (wSet 3 (wCall fs_law_integer [] (wCons (wOp oIx (wVar 2) (wC (.int 1))) (wNil)))) (wRet (wIf (wOr (wT (wOp oIsN (wVar 3) (wC .none))) (wT (wOp oEq (wVar 3) (wC (.int 0))))) (wC .none) (wTup (wCons (wC (.str "repeat")) (wCons (wOp oIx (wVar 2) (wC (.int 0))) (wCons (wVar 3) (wNil)))))))))))
def wt_law_item_2 : WS := wSeq (wSet 2 (wM1 oSplit (wVar 0) (wC (.str "*")))) (wSeq (wIfS (wOr (wT (wOp oNe (wCB (o1 oLen) (wCons (wVar 2) (wNil))) (wC (.int 2)))) (wT (wOp (oIn true) (wOp oIx (wVar 2) (wC (.int 0))) (wVar 1)))) (wRet (wC .none)) (wNext)) (wSeq (wSet 3 (wCall fs_law_integer [] (wCons (wOp oIx (wVar 2) (wC (.int 1))) (wNil)))) (wRet (wIf (wOr (wT (wOp oIsN (wVar 3) (wC .none))) (wT (wOp oEq (wVar 3) (wC (.int 0))))) (wC .none) (wTup (wCons (wC (.str "repeat")) (wCons (wOp oIx (wVar 2) (wC (.int 0))) (wCons (wVar 3) (wNil)))))))))
theorem cut_law_item : w_law_item = wSeq (wIfS (wT (wCall fs_law_is_name [] (wCons (wVar 0) (wNil)))) (wRet (wTup (wCons (wC (.str "bar")) (wCons (wVar 0) (wNil))))) (wNext)) (wSeq (wIfS (wAnd (wT (wOp oEq (wSlS (wVar 0) (wPart (wUn (fun a k => isI a fun i => k (.sh (.int (-i)))) (wC (.int 1)))) (wNoP)) (wC (.str ":")))) (wAnd (wT (wCall fs_law_is_name [] (wCons (wSlS (wVar 0) (wNoP) (wPart (wUn (fun a k => isI a fun i => k (.sh (.int (-i)))) (wC (.int 1))))) (wNil)))) (wT (wOp (oIn true) (wSlS (wVar 0) (wNoP) (wPart (wUn (fun a k => isI a fun i => k (.sh (.int (-i)))) (wC (.int 1))))) (wVar 1))))) (wRet (wTup (wCons (wC (.str "mark")) (wCons (wSlS (wVar 0) (wNoP) (wPart (wUn (fun a k => isI a fun i => k (.sh (.int (-i)))) (wC (.int 1))))) (wNil))))) (wNext)) (wt_law_item_2)) := rfl
theorem item_tail {x : Str} {L ms : List Str} {a2 a3 : Sl} {Dn : VL.WD} {X : XW} (ha : Asc (cs x)) (hn : NoLong (cs x)) (hxl : x.length ≤ 900000) (hM : ∀ s, s ∈ L ↔ s ∈ ms) (hms : ∀ s ∈ ms, nameB s = true)
    (q1 : ∀ it : SC.It, itS it = x → ok ms [it] → ∀ Γ, Dn.rt (.sh it.d) Γ) (q2 : (∀ p n, cs x = p ++ ([42] ++ TL.numL n) → 42 ∉ p → SX.S p ∈ ms → n = 0) → ∀ Γ, Dn.rt (.sh .none) Γ) :
    wt_law_item_2 [.sh (.str x), .sh (.list (L.map .str)), a2, a3] Dn X := by
  have hsL : SeqAt.shaped (.list (L.map PyData.str)) = true := sh_strs fun s hs => hms s ((hM s).mp hs)
  have hstar : (("*" : Str).length == 0) = false := by decide +kernel
  have s2 : SeqAt.shaped (.int 2) = true := by decide +kernel
  obtain ⟨P, h1, h2, h3⟩ := star_parts (cs x)
  have hsp := split_star h1 h2 h3
  simp [wt_law_item_2, oSplit, hsp]
  refine ⟨by decide +kernel, smallE (by omega), ?_⟩
  have two : ∀ p n, cs x = p ++ ([42] ++ TL.numL n) → 42 ∉ p → P = [p, TL.numL n] := fun p n e hp => by
    have h := split_star (x := x) (P := [p, TL.numL n]) (by simp) e (fun y hy => by
      simp only [List.mem_cons, List.not_mem_nil, or_false] at hy
      rcases hy with rfl | rfl
      · exact hp
      · exact TL.numL_free (.inl (by decide)))
    rw [hsp] at h
    exact S_map_inj h
  match P, hsp, two, h2, h3 with
  | [], _, _, _, _ => exact absurd rfl h1
  | [p], _, two, _, _ =>
    simp [s2, shaped_int, eqv_int]
    exact q2 (fun p n e hp hm => by have := two p n e hp; simp at this) _
  | p :: q :: r :: t, _, two, _, _ =>
    have hne : ¬ ((t.length : Int) + 1 + 1 + 1 = 2) := by omega
    simp [s2, shaped_int, eqv_int, hne]
    exact q2 (fun p n e hp hm => by have := two p n e hp; simp at this) _
  | [p, q], _, two, h2, h3 =>
    have e : cs x = p ++ ([42] ++ q) := h2
    have hp : 42 ∉ p := h3 p (by simp)
    have hqi : q <:+: cs x := ⟨p ++ [42], [], by rw [e]; simp⟩
    have hpi : p <:+: cs x := ⟨[], [42] ++ q, by rw [e]; simp⟩
    have ap : SeqAt.shaped (.str (SX.S p)) = true := shaped_str (strOk_of (by rw [cs_S]; exact ha.infix hpi))
    simp [s2, shaped_int, eqv_int]
    simp [ev_oInS, ap, hsL]
    have e0 : ∀ n' p', cs x = p' ++ ([42] ++ TL.numL n') → 42 ∉ p' → p' = p ∧ q = TL.numL n' := fun n' p' e' hp' => by
      have := two p' n' e' hp'
      simp at this
      exact ⟨this.1.symm, this.2⟩
    by_cases hm : SX.S p ∈ L
    · rw [if_pos hm]
      refine ⟨rfl, _, rfl, by rw [cs_S]; exact ha.infix hqi, by rw [cs_S]; exact (hn.infix hqi).w, by
        rw [← cs_len, cs_S]
        have := hqi.length_le
        rw [cs_len] at this
        omega, ?_⟩
      by_cases hz : ∃ n, q = TL.numL n
      · obtain ⟨n, hq⟩ := hz
        rw [numD_some (by rw [cs_S]; exact hq)]
        have hlt : n < 1000000000 := by
          have h1 := hn.infix hqi _ (List.infix_refl _) (by rw [hq]; exact TL.numL_digits n)
          have h2 := dval_lt q (by rw [hq]; exact TL.numL_digits n)
          rw [hq, TL.numL_val, ← hq] at h2
          have h3 : 10 ^ q.length ≤ 10 ^ 9 := Nat.pow_le_pow_right (by decide) h1
          omega
        have erep : itS (.rep (SX.S p) (n : Int)) = x := str_ext (by rw [cs_rep, cs_S, e, hq])
        by_cases h0 : n = 0
        · subst h0
          simp [isNone, shaped_int, eqv_int]
          exact q2 (fun p' n' e' hp' hm' => by
            have := (e0 n' p' e' hp').2
            exact TL.numL_inj (by rw [← this, hq])) _
        · simp [isNone, shaped_int, eqv_int, h0]
          have := q1 (.rep (SX.S p) (n : Int)) erep ⟨hms _ ((hM _).mp hm), (hM _).mp hm, ⟨by omega, by omega⟩, trivial⟩
          exact this _
      · rw [numD_none (by rw [cs_S]; exact fun n hq => hz ⟨n, hq⟩)]
        simp [isNone]
        exact q2 (fun p' n' e' hp' hm' => absurd ⟨n', (e0 n' p' e' hp').2⟩ hz) _
    · rw [if_neg hm]
      exact q2 (fun p' n' e' hp' hm' => by
        have := (e0 n' p' e' hp').1
        rw [this] at hm'
        exact absurd ((hM _).mpr hm') hm) _
theorem fv_law_item : FnV fs_law_item 4 w_law_item := by
  rintro io ds Q X ⟨rfl, x, L, ms, rfl, ha, hn, hxl, hM, hms, q1, q2⟩
  show w_law_item [.sh (.str x), .sh (.list (L.map .str)), .no, .no] _ _
  have hs58 : SeqAt.shaped (.str ":") = true := by decide +kernel
  have hsL : SeqAt.shaped (.list (L.map PyData.str)) = true := sh_strs fun s hs => hms s ((hM s).mp hs)
  rw [cut_law_item]
  have tail := fun (a2 a3 : Sl) (Dn : VL.WD) (X : XW) => item_tail (a2 := a2) (a3 := a3) (Dn := Dn) (X := X) ha hn hxl hM hms
  simp
  refine ⟨rfl, x, rfl, ha, hxl, ?_⟩
  cases hb : nameB x with
  | true =>
    simp
    exact q1 (.bar x) rfl ⟨hb, trivial⟩
  | false =>
    simp
    refine ⟨smallE (by omega), ?_⟩
    have hnone : ∀ {k : Prop}, (∀ l, cs x = l ++ [58] → nameB (SX.S l) = true → SX.S l ∈ ms) → ((∀ it : SC.It, itS it = x → ¬ ok ms [it]) → k) → (∀ p n, cs x = p ++ ([42] ++ TL.numL n) → 42 ∉ p → SX.S p ∈ ms → n = 0) → k := fun h1 h2 h3 => h2 fun it hit hok => by
      rcases it_cases hit hok with z | ⟨l, z1, z2, z3⟩ | ⟨p, n, z1, z2, z3, z4⟩
      · rw [hb] at z; cases z
      · exact z3 (h1 l z1 z2)
      · exact z4 (h3 p n z1 z2 z3)
    have fin : (∀ l, cs x = l ++ [58] → nameB (SX.S l) = true → SX.S l ∈ ms) → wt_law_item_2 [.sh (.str x), .sh (.list (L.map .str)), .no, .no] ⟨fun Γ => Q (.sh .none) none, fun r Γ => retW r Γ fun r' Γ' => Q r' none, fun _ => False, fun _ => False⟩ fun x Γ => X x none := fun h => by
      refine tail _ _ _ _ (fun it hit hok Γ => ?_) (fun h2 Γ => ?_)
      · exact q1 it hit hok
      · exact hnone (k := Q (.sh .none) none) h q2 h2
    have hx : cs x = [] ∨ ∃ l k, cs x = l ++ [k] := by
      rcases List.eq_nil_or_concat (cs x) with h | ⟨l, k, h⟩
      · exact .inl h
      · exact .inr ⟨l, k, by rw [h, List.concat_eq_append]⟩
    rcases hx with hx | ⟨l, k, hx⟩
    · have e : x = "" := str_ext (by rw [hx]; decide +kernel)
      have e2 : Txt.slice x (some (-1)) none = "" := by rw [e]; decide +kernel
      have e3 : SeqAt.shaped (.str "") = true := by decide +kernel
      have e4 : ¬ (("" : Str) = ":") := by decide +kernel
      simp [e2, e3, hs58, eqv_str, e4]
      exact fin fun l h => by rw [hx] at h; simp at h
    · have hk : k ∈ cs x := by rw [hx]; simp
      have hka := ha k hk
      have e2 : Txt.slice x (some (-1)) none = SX.S [k] := by
        have := SX.slice_last (a := cs x) (by rw [hx]; simp)
        rw [S_cs] at this
        rw [this, hx]
        simp
      have e5 : Txt.slice x none (some (-1)) = SX.S l := by
        have := SX.butlast_snoc l k
        rwa [← hx, S_cs] at this
      have e3 : SeqAt.shaped (.str (SX.S [k])) = true := shaped_str (strOk_of (by rw [cs_S]; intro j hj; simp at hj; omega))
      have e58 : cs ":" = [58] := by decide +kernel
      have e4 : (SX.S [k] = ":") ↔ k = 58 := ⟨fun z => by
        have := congrArg cs z
        rw [cs_S, e58] at this
        simpa using this, fun z => by subst z; decide +kernel⟩
      simp [e2, e3, e5, hs58, eqv_str]
      by_cases h58 : k = 58
      · subst h58
        have e6 : SX.S [58] = ":" := e4.mpr rfl
        have hli : l <:+: cs x := ⟨[], [58], by rw [hx]; simp⟩
        have hll : (SX.S l).length ≤ 900000 := by
          rw [← cs_len, cs_S]
          have := hli.length_le
          rw [cs_len] at this
          omega
        rw [if_pos e6]
        refine ⟨smallE (by omega), rfl, _, rfl, by rw [cs_S]; exact ha.infix hli, hll, ?_⟩
        cases hnl : nameB (SX.S l) with
        | false =>
          simp
          exact fin fun l' h h2 => by
            have : l' = l := by rw [hx] at h; simpa using h.symm
            rw [this, hnl] at h2
            cases h2
        | true =>
          have hs : SeqAt.shaped (.str (SX.S l)) = true := shaped_str (name_strOk hnl)
          simp [ev_oInS, hs, hsL]
          refine ⟨smallE (by omega), ?_⟩
          by_cases hm : SX.S l ∈ L
          · first | rw [if_pos hm] | simp [hm] | trace_state
            exact fin fun l' h _ => by
              have : l' = l := by rw [hx] at h; simpa using h.symm
              rw [this]
              exact (hM _).mp hm
          · first | rw [if_neg hm] | simp [hm] | trace_state
            have := q1 (.mark (SX.S l)) (str_ext (by rw [cs_mark, cs_S, hx])) ⟨hnl, fun z => hm ((hM _).mpr z), trivial⟩
            exact ⟨smallE (by omega), this⟩
      · rw [if_neg fun z => h58 (e4.mp z)]
        exact fin fun l' h => by
          rw [hx] at h
          have := (List.append_inj' h rfl).2
          simp at this
          exact absurd this h58
def fs_law_parse : FS := fun io ds Q _ => io = none ∧ ∃ x : Str, ds = [.str x] ∧ Asc (cs x) ∧ NoLong (cs x) ∧ x.length ≤ 900000 ∧ (cs x).count 32 ≤ 280 ∧
  (∀ l, ok [] l → l.length ≤ 281 → fmtS l = x → Q (.ow (.list (sc l))) none) ∧ ∀ n, BadAt x n → Q (.sh (.int (n : Int))) none
def w_law_parse : WS := wSeq (wPar [1, 2] (wsCons (wLst (wNil)) (wsCons (wLst (wNil)) (wsNil)))) (wSeq (wFor (wiA enumD (wCons (wIf (wT (wOp oNe (wVar 0) (wC (.str "")))) (wM1 oSplit (wVar 0) (wC (.str " "))) (wLst (wNil))) (wNil))) (wgTup 2 (wgCons (wgName 3) (wgCons (wgName 4) (wgNil)))) (wSeq (wSet 5 (wCallB2 fs_law_item [] (wCons (wVar 4) (wCons (wVar 2) (wNil))))) (wSeq (wIfS (wT (wOp oIsN (wVar 5) (wC .none))) (wRet (wVar 3)) (wNext)) (wSeq (wIfS (wT (wOp oEq (wOp oIx (wVar 5) (wC (.int 0))) (wC (.str "mark")))) (wDrop (wMut 2 fAppend (wCons (wOp oIx (wVar 5) (wC (.int 1))) wNil))) (wNext)) (wDrop (wMut 1 fAppend (wCons (wVar 5) wNil))))))) (wRet (wVar 1)))
theorem fv_law_parse : FnV fs_law_parse 6 w_law_parse := by
  rintro io ds Q X ⟨rfl, x, rfl, ha, hn, hxl, hcn, q, qx⟩
  show w_law_parse [.sh (.str x), .no, .no, .no, .no, .no] _ _
  have hso : SeqAt.shaped (.str x) = true := shaped_str (strOk_of ha)
  have s0 : SeqAt.shaped (.str "") = true := by decide +kernel
  have hwl : (wd x).length ≤ 281 := Nat.le_trans (wd_len x) (by omega)
  have sl : (" " : Str).length = 1 := by decide +kernel
  suffices hw : ∀ (X' : XW) (D : VL.WD) (g : WG) (b : WS), loopW g b D X' (enumD ((wd x).map .str)) [.sh (.str x), .ow (.list []), .ow (.list []), .no, .no, .no] →
      wFor (wiA enumD (wCons (wIf (wT (wOp oNe (wVar 0) (wC (.str "")))) (wM1 oSplit (wVar 0) (wC (.str " "))) (wLst (wNil))) (wNil))) g b [.sh (.str x), .ow (.list []), .ow (.list []), .no, .no, .no] D X' by
    simp [w_law_parse, -ev_wFor]
    refine hw _ _ _ _ ?_
    refine loop_inv (fun i Γ => ∃ (l : List SC.It) (L : List Str) (a3 a4 a5 : Sl), Γ = [.sh (.str x), .ow (.list (sc l)), .ow (.list (L.map .str)), a3, a4, a5] ∧ l.map itS = (wd x).take i ∧ ok [] l ∧ L.length ≤ i ∧ ∀ s, s ∈ L ↔ s ∈ mk [] l) ⟨[], [], _, _, _, rfl, rfl, trivial, Nat.le_refl _, fun s => by simp [mk]⟩ ?_ ?_
    · rintro i d Γ k hd ⟨l, L, a3, a4, a5, rfl, hl, hok, hpl, hM⟩ hk
      obtain ⟨e, he, rfl⟩ := enumD_get hd
      obtain ⟨y, hy, rfl⟩ : ∃ y, (wd x)[i]? = some y ∧ e = .str y := by
        rw [List.getElem?_map] at he
        cases z : (wd x)[i]? with
        | none => simp [z] at he
        | some it => exact ⟨it, rfl, by simpa [z] using he.symm⟩
      have hi := (List.getElem?_eq_some_iff.mp hy).1
      have hym := List.mem_of_getElem? hy
      have hyi := wd_infix hym
      have hyl : y.length ≤ 900000 := by
        have := hyi.length_le
        rw [cs_len, cs_len] at this
        omega
      have hll : l.length ≤ i := by
        have := congrArg List.length hl
        rw [List.length_map, List.length_take] at this
        omega
      have hz1 : (sc l).length < sizeLine := small (by rw [sc_length]; omega)
      have hz2 : L.length < sizeLine := small (by omega)
      simp
      refine ⟨rfl, y, L, mk [] l, rfl, ha.infix hyi, hn.infix hyi, hyl, hM, fun s hs => mk_valid hok (fun _ z => nomatch z) hs, fun it hit hi2 => ?_, fun hno => ?_⟩
      · have htk : (l ++ [it]).map itS = (wd x).take (i + 1) := by
          rw [List.take_succ, hy, List.map_append, hl]
          simp [hit]
        have hok2 := ok_snoc hok hi2
        have hsc : sc (l ++ [it]) = sc l ++ [it.d] := by simp [sc]
        have hmk : mk [] (l ++ [it]) = mk (mk [] l) [it] := mk_app l [it] []
        cases it with
        | bar z =>
          simp [It.d, flatD, sh_bar, sh_mark, eqv_str, bm, isNone]
          exact ⟨hz1, hk _ ⟨_, L, _, _, _, by rw [hsc]; rfl, htk, hok2, by omega, fun s => by rw [hmk]; exact hM s⟩⟩
        | mark z =>
          simp [It.d, flatD, sh_mark, eqv_str, mm, isNone]
          refine ⟨hz2, hz1, hk _ ⟨_, L ++ [z], _, _, _, by rw [hsc, List.map_append]; rfl, htk, hok2, by simp; omega, fun s => ?_⟩⟩
          rw [hmk]
          show _ ↔ s ∈ z :: mk [] l
          rw [List.mem_cons, ← hM s, List.mem_append, List.mem_singleton]
          exact Or.comm
        | rep z c =>
          simp [It.d, flatD, sh_rep, sh_mark, eqv_str, rm, isNone]
          exact ⟨hz1, hk _ ⟨_, L, _, _, _, by rw [hsc]; rfl, htk, hok2, by omega, fun s => by rw [hmk]; exact hM s⟩⟩
      · simp [flatD, isNone]
        exact ⟨rfl, qx i ⟨l, y, hl, hok, hy, hno⟩⟩
    · rintro Γ ⟨l, L, a3, a4, a5, rfl, hl, hok, hpl, hM⟩
      rw [enumD_length, List.length_map, List.take_length] at hl
      have hf : fmtS l = x := by
        unfold fmtS
        rw [hl, wd_join]
      simp
      exact q l hok (by have := congrArg List.length hl; rw [List.length_map] at this; omega) hf
  intro X' D g b h
  unfold wd at h
  by_cases hne : x = ""
  · rw [if_pos hne] at h
    subst hne
    simp [ev_wFor, s0, eqv_str]
    exact h
  · rw [if_neg hne] at h
    simp [ev_wFor, hso, s0, eqv_str, hne, oSplit, sl]
    exact ⟨smallE (by omega), h⟩
def fs_law_found : FS := fun io ds Q _ => io = none ∧ ((∃ x : Str, ds = [.str x] ∧ Asc (cs x) ∧ NoLong (cs x) ∧ x.length ≤ 900000 ∧ (cs x).count 32 ≤ 280 ∧
  (∀ l, ok [] l → l.length ≤ 281 → fmtS l = x → Q (.ow (.list (sc l))) none) ∧ ∀ n, BadAt x n → Q (.sh (.int (n : Int))) none) ∨ ∃ d, ds = [d] ∧ (∀ s, d ≠ .str s) ∧ Q (.sh .none) none)
def w_law_found : WS := wSeq (wSet 1 (wC .none)) (wSeq (wSet 2 (wC .none)) (wSeq (wTry ["InvalidScore", "NotSimple", "InvalidBar", "InvalidTime", "InvalidCount", "UnknownName", "InvalidCommand", "ParseError"] 3 (wSet 1 (wCall fs_parse_scoreY [] (wCons (wVar 0) (wNil)))) (wMov 2 3)) (wSeq (wIfS (wT (wIsNV 2)) (wRet (wVar 1)) (wNext)) (wRet (wIf (wT (wOp oEq (wCallIo fs_law_kindC 2 [] (wNil)) (wC (.str "parse")))) (wIdx ["ParseError"] 2) (wC (.str "odd")))))))
theorem fv_law_found : FnV fs_law_found 4 w_law_found := by
  have hx : ("ParseError" : Str) ∈ exC := by decide +kernel
  have hk := kind_name
  have hsh := kind_sh hx
  rw [hk] at hsh
  have hp : ("ParseError" : Str) ∈ (["InvalidScore", "NotSimple", "InvalidBar", "InvalidTime", "InvalidCount", "UnknownName", "InvalidCommand", "ParseError"] : List Str) := by decide +kernel
  have hp1 : ("ParseError" : Str) ∈ (["ParseError"] : List Str) := by simp
  rintro io ds Q X ⟨rfl, ⟨x, rfl, ha, hn, hxl, hcn, q, qx⟩ | ⟨d, rfl, hd, q⟩⟩
  · show w_law_found [.sh (.str x), .no, .no, .no] _ _
    simp [w_law_found]
    refine ⟨rfl, .inl ⟨x, rfl, ha, .inl hn, hxl, hcn, fun l ho hl hf => ?_, fun n hb => ?_⟩⟩
    · simp [isNone]
      exact q l ho hl hf
    · simp
      refine ⟨"ParseError", _, rfl, .inr ⟨_, rfl⟩, hx, rfl, ?_⟩
      simp [eqv_str, hsh, hk, ioOf, SameIo]
      exact qx n hb
  · show w_law_found [.sh d, .no, .no, .no] _ _
    simp [w_law_found]
    refine ⟨rfl, .inr ⟨d, rfl, hd, ?_⟩⟩
    simp
    refine ⟨"ParseError", _, rfl, .inr ⟨_, rfl⟩, hx, rfl, ?_⟩
    simp [eqv_str, hsh, hk, ioOf, SameIo]
    exact q
theorem len_S (l : List Nat) : (SX.S l).length = l.length := by rw [← cs_len, cs_S]
theorem sl_to (x : Str) (a : Nat) : Txt.slice x none (some (a : Int)) = SX.S ((cs x).take a) := by
  have := SX.slice_to (a := cs x) (i := (a : Int)) (by omega)
  rw [S_cs] at this
  exact this
theorem sl_from (x : Str) (a : Nat) : Txt.slice x (some (a : Int)) none = SX.S ((cs x).drop a) := by
  have := SX.slice_from (a := cs x) (i := (a : Int)) (by omega)
  rw [S_cs] at this
  exact this
theorem sl_mid {x : Str} {a b : Nat} (hab : a ≤ b) (hb : b ≤ x.length) : Txt.slice x (some (a : Int)) (some (b : Int)) = SX.S (((cs x).drop a).take (b - a)) := by
  refine str_ext ?_
  rw [cs_S]
  show (Txt.slice x (some (a : Int)) (some (b : Int))).cps.toList = _
  unfold Txt.slice
  have hp := PySem.StrLaws.strSliceIndices_plain hab hb
  split
  · next h =>
    rw [hp, List.length_map, List.length_range, Bool.and_eq_true, beq_iff_eq, beq_iff_eq] at h
    have l : x.cps.toList.length = x.length := Array.length_toList
    have h2 := h.2
    have e1 : a = 0 := by omega
    have e2 : b = x.cps.toList.length := by omega
    show x.cps.toList = _
    rw [e1, e2, List.drop_zero, Nat.sub_zero]
    exact List.take_length.symm
  · exact PySem.StrLaws.sliced_plain x hab hb
def GdL (x y : Str) : Prop := Asc (cs y) ∧ y.length ≤ 2 * x.length + 1 ∧ (cs y).count 32 ≤ 2 * (cs x).count 32 + 1
theorem gd_of {x y : Str} {A M B : List Nat} (ha : Asc (cs x)) (h1 : A <:+: cs x) (h2 : B <:+: cs x) (hm : M.length ≤ 1) (hM : ∀ k ∈ M, k < 128) (e : cs y = A ++ (M ++ B)) : GdL x y := by
  have l1 := h1.length_le
  have l2 := h2.length_le
  rw [cs_len] at l1 l2
  refine ⟨fun k hk => ?_, ?_, ?_⟩
  · rw [e] at hk
    simp only [List.mem_append] at hk
    rcases hk with hk | hk | hk
    · exact ha.infix h1 k hk
    · exact hM k hk
    · exact ha.infix h2 k hk
  · rw [← cs_len y, e]
    simp only [List.length_append]
    omega
  · rw [e]
    simp only [List.count_append]
    have := h1.sublist.count_le (a := 32)
    have := h2.sublist.count_le (a := 32)
    have : M.count 32 ≤ 1 := Nat.le_trans List.count_le_length hm
    omega
abbrev sgD : Str := " 0123456789:*abdomiz|-A.\n\t"
theorem sgD_asc : ∀ c ∈ cs sgD, c < 128 := by decide +kernel
theorem sgD_len : sgD.length = 26 := by decide +kernel
def fs_law_change : FS := fun io ds Q _ => ∃ (n : Nat) (d : D) (x : Str), io = some (.io d) ∧ StrOk n d ∧ n ≤ 900000 ∧ ds = [.str x] ∧ Asc (cs x) ∧ x.length ≤ 400000 ∧
  ∀ (y : Str) d', GdL x y → StrOk (n + 4) d' → Q (.sh (.str y)) (some (.io d'))
def w_law_change : WS := wSeq (wPar [2, 3] (wsCons (wCallIo fs_law_drawS 0 [] (wCons (wOp oAdd (wCB (o1 oLen) (wCons (wVar 1) (wNil))) (wC (.int 1))) (wNil))) (wsCons (wCallIo fs_law_drawS 0 [] (wCons (wOp oAdd (wCB (o1 oLen) (wCons (wVar 1) (wNil))) (wC (.int 1))) (wNil))) (wsNil)))) (wSeq (wPar [4, 5] (wsCons (wCB (o2 oMin) (wCons (wVar 2) (wCons (wVar 3) (wNil)))) (wsCons (wCB (o2 oMax) (wCons (wVar 2) (wCons (wVar 3) (wNil)))) (wsNil)))) (wSeq (wSet 6 (wOp oIx (wC (.str " 0123456789:*abdomiz|-A.\n\t")) (wCallIo fs_law_drawS 0 [] (wCons (wC (.int 26)) (wNil))))) (wSeq (wSet 7 (wLst (wCons (wOp oAdd (wOp oAdd (wSlS (wVar 1) (wNoP) (wPart (wVar 2))) (wVar 6)) (wSlS (wVar 1) (wPart (wVar 2)) (wNoP))) (wCons (wOp oAdd (wSlS (wVar 1) (wNoP) (wPart (wVar 2))) (wSlS (wVar 1) (wPart (wOp oAdd (wVar 2) (wC (.int 1)))) (wNoP))) (wCons (wOp oAdd (wOp oAdd (wSlS (wVar 1) (wNoP) (wPart (wVar 2))) (wVar 6)) (wSlS (wVar 1) (wPart (wOp oAdd (wVar 2) (wC (.int 1)))) (wNoP))) (wNil)))))) (wSeq (wSet 7 (wOp oAdd (wVar 7) (wLst (wCons (wOp oAdd (wSlS (wVar 1) (wNoP) (wPart (wVar 4))) (wSlS (wVar 1) (wPart (wVar 5)) (wNoP))) (wCons (wOp oAdd (wSlS (wVar 1) (wNoP) (wPart (wVar 5))) (wSlS (wVar 1) (wPart (wVar 4)) (wNoP))) (wCons (wSlS (wVar 1) (wPart (wVar 4)) (wPart (wVar 5))) (wCons (wOp oAdd (wSlS (wVar 1) (wPart (wVar 5)) (wNoP)) (wSlS (wVar 1) (wNoP) (wPart (wVar 5)))) (wNil)))))))) (wSeq (wSet 7 (wOp oAdd (wVar 7) (wLst (wCons (wOp oAdd (wOp oAdd (wVar 1) (wC (.str " "))) (wSlS (wVar 1) (wNoP) (wPart (wC (.int 400))))) (wCons (wC (.str "")) (wCons (wOp oAdd (wVar 1) (wVar 6)) (wNil))))))) (wRet (wOp oIx (wVar 7) (wCallIo fs_law_drawS 0 [] (wCons (wC (.int 10)) (wNil))))))))))
theorem fv_law_change : FnV fs_law_change 8 w_law_change := by
  rintro io ds Q X ⟨n, d, x, rfl, hs, hn, rfl, ha, hxl, q⟩
  show w_law_change [.io d, .sh (.str x), .no, .no, .no, .no, .no, .no] _ _
  have hsl : (" 0123456789:*abdomiz|-A.\n\t" : Str).length = 26 := sgD_len
  have sp1 : (" " : Str).length = 1 := by decide +kernel
  have csp : cs " " = [32] := by decide +kernel
  have cem : cs "" = [] := by decide +kernel
  simp [w_law_change]
  refine ⟨smallE (by omega), ?_⟩
  refine drwS (m := (x.length : Int) + 1) hs (by omega) (by omega) (by omega) fun r1 d1 a1 a2 h1 => ?_
  simp
  refine ⟨smallE (by omega), ?_⟩
  refine drwS (m := (x.length : Int) + 1) h1 (by omega) (by omega) (by omega) fun r2 d2 b1 b2 h2 => ?_
  simp
  refine drwS (m := 26) h2 (by omega) (by omega) (by omega) fun r3 d3 c1 c2 h3 => ?_
  simp
  refine pickS (by omega) (by omega) (by omega) fun c hc => ?_
  have hc128 := sgD_asc c hc
  have hc1 : (⟨#[c]⟩ : Str).length = 1 := rfl
  obtain ⟨a, rfl⟩ : ∃ a : Nat, r1 = (a : Int) := ⟨r1.toNat, by omega⟩
  obtain ⟨b, rfl⟩ : ∃ b : Nat, r2 = (b : Int) := ⟨r2.toNat, by omega⟩
  obtain ⟨lo, hlo⟩ : ∃ lo : Nat, (if (b : Int) < (a : Int) then (b : Int) else (a : Int)) = (lo : Int) := ⟨if b < a then b else a, by split <;> split <;> omega⟩
  obtain ⟨hi, hhi⟩ : ∃ hi : Nat, (if (a : Int) < (b : Int) then (b : Int) else (a : Int)) = (hi : Int) := ⟨if a < b then b else a, by split <;> split <;> omega⟩
  have hlh : lo ≤ hi ∧ hi ≤ x.length := by
    split at hlo <;> split at hhi <;> omega
  rw [hlo, hhi]
  have e1 : Txt.slice x (some ((a : Int) + 1)) none = SX.S ((cs x).drop (a + 1)) := sl_from x (a + 1)
  have e2 : Txt.slice x none (some 400) = SX.S ((cs x).take 400) := sl_to x 400
  have e3 := sl_mid hlh.1 hlh.2
  have hcl := cs_len x
  simp [sl_to, sl_from, e1, e2, e3, len_S, app_len, hc1, sp1]
  have hsz : x.cps.size = x.length := rfl
  repeat (refine ⟨smallE (by omega), ?_⟩)
  refine drwS (m := 10) h3 (by omega) (by omega) (by omega) fun r4 d4 f1 f2 h4 => ?_
  simp
  have it : ∀ k, (cs x).take k <:+: cs x := fun k => (List.take_prefix k _).isInfix
  have id' : ∀ k, (cs x).drop k <:+: cs x := fun k => (List.drop_suffix k _).isInfix
  have i0 : ([] : List Nat) <:+: cs x := List.nil_infix
  have ix0 : cs x <:+: cs x := List.infix_refl _
  have cc : cs (⟨#[c]⟩ : Str) = [c] := rfl
  have hc' : ∀ k ∈ [c], k < 128 := fun k hk => by simp at hk; omega
  have h32 : ∀ k ∈ [32], k < 128 := fun k hk => by simp at hk; omega
  have hnil : ∀ k ∈ ([] : List Nat), k < 128 := fun k hk => nomatch hk
  refine pick (by omega) (by simp; omega) fun y hy => ?_
  simp only [List.mem_cons, List.not_mem_nil, or_false] at hy
  simp
  rcases hy with rfl | rfl | rfl | rfl | rfl | rfl | rfl | rfl | rfl | rfl
  · exact q _ d4 (gd_of (M := [c]) ha (it a) (id' a) (by simp) hc' (by rw [cs_app, cs_app, cs_S, cs_S, cc, List.append_assoc])) h4
  · exact q _ d4 (gd_of (M := []) ha (it a) (id' (a + 1)) (by simp) hnil (by rw [cs_app, cs_S, cs_S]; rfl)) h4
  · exact q _ d4 (gd_of (M := [c]) ha (it a) (id' (a + 1)) (by simp) hc' (by rw [cs_app, cs_app, cs_S, cs_S, cc, List.append_assoc])) h4
  · exact q _ d4 (gd_of (M := []) ha (it lo) (id' hi) (by simp) hnil (by rw [cs_app, cs_S, cs_S]; rfl)) h4
  · exact q _ d4 (gd_of (M := []) ha (it hi) (id' lo) (by simp) hnil (by rw [cs_app, cs_S, cs_S]; rfl)) h4
  · exact q _ d4 (gd_of (M := []) (A := []) ha i0 (((List.take_prefix (hi - lo) _).isInfix).trans (id' lo)) (by simp) hnil (by rw [cs_S]; rfl)) h4
  · exact q _ d4 (gd_of (M := []) ha (id' hi) (it hi) (by simp) hnil (by rw [cs_app, cs_S, cs_S]; rfl)) h4
  · exact q _ d4 (gd_of (M := [32]) ha ix0 (it 400) (by simp) h32 (by rw [cs_app, cs_app, cs_S, csp, List.append_assoc])) h4
  · exact q _ d4 (gd_of (M := []) (A := []) (B := []) ha i0 i0 (by simp) hnil (by rw [cem]; rfl)) h4
  · exact q _ d4 (gd_of (M := [c]) (B := []) ha ix0 i0 (by simp) hc' (by rw [cs_app, cc, List.append_nil])) h4
theorem join_cs (r : List Str) : cs (Txt.join " " r) = TL.joinL [32] (r.map cs) := by
  have := SX.join_S [32] (r.map cs)
  rw [List.map_map, sp_one] at this
  have e : List.map (SX.S ∘ cs) r = r := by
    conv => rhs; rw [← List.map_id r]
    exact List.map_congr_left fun y _ => S_cs y
  rw [e] at this
  rw [this, cs_S]
theorem joinL_ok : ∀ ps : List (List Nat), (∀ p ∈ ps, Asc p ∧ p.length ≤ 10 ∧ p.count 32 ≤ 1) → Asc (TL.joinL [32] ps) ∧ (TL.joinL [32] ps).length ≤ 11 * ps.length ∧ (TL.joinL [32] ps).count 32 ≤ 2 * ps.length
  | [], _ => by
    refine ⟨fun k hk => (nomatch hk), by simp [TL.joinL], by simp [TL.joinL]⟩
  | [p], h => by
    obtain ⟨h1, h2, h3⟩ := h p (by simp)
    exact ⟨h1, by simp [TL.joinL]; omega, by simp [TL.joinL]; omega⟩
  | p :: q :: r, h => by
    obtain ⟨h1, h2, h3⟩ := h p (by simp)
    obtain ⟨g1, g2, g3⟩ := joinL_ok (q :: r) fun y hy => h y (List.mem_cons_of_mem _ hy)
    have e : TL.joinL [32] (p :: q :: r) = p ++ ([32] ++ TL.joinL [32] (q :: r)) := rfl
    rw [e]
    refine ⟨fun k hk => ?_, ?_, ?_⟩
    · simp only [List.mem_append, List.mem_singleton] at hk
      rcases hk with hk | hk | hk
      · exact h1 k hk
      · omega
      · exact g1 k hk
    · simp only [List.length_append, List.length_cons, List.length_nil] at g2 ⊢
      omega
    · simp only [List.count_append, List.length_cons] at g3 ⊢
      have : List.count 32 [32] = 1 := by decide
      omega
def mnL : List Str := ["a:", "b:", "a", "b", "a*1", "b*2", "a*0", "a*01", "a*", "*1", ":", "a:1", "a::", "c*1", "", "A", "a*1*1", "abcdefgh:", "abcdefghi", "abcdefghi:", "abcdefgh*9", "a*+1", "a*-1", "a *1", "a1", "1", "a*1:"]
theorem mnL_ok : ∀ y ∈ mnL, Asc (cs y) ∧ y.length ≤ 10 ∧ (cs y).count 32 ≤ 1 := by
  have : ∀ y ∈ mnL, (cs y).all (fun k => decide (k < 128)) = true ∧ y.length ≤ 10 ∧ (cs y).count 32 ≤ 1 := by decide +kernel
  exact fun y hy => ⟨fun k hk => of_decide_eq_true (List.all_eq_true.mp (this y hy).1 k hk), (this y hy).2⟩
def fs_law_menu_line : FS := fun io ds Q _ => ∃ (n : Nat) (d : D), io = some (.io d) ∧ StrOk n d ∧ n ≤ 900000 ∧ ds = [] ∧ ∀ (y : Str) d', Asc (cs y) → y.length ≤ 100 → (cs y).count 32 ≤ 20 → StrOk (n + 7) d' → Q (.sh (.str y)) (some (.io d'))
def w_law_menu_line : WS := wSeq (wSet 1 (wLst (wCons (wC (.str "a:")) (wCons (wC (.str "b:")) (wCons (wC (.str "a")) (wCons (wC (.str "b")) (wCons (wC (.str "a*1")) (wCons (wC (.str "b*2")) (wCons (wC (.str "a*0")) (wCons (wC (.str "a*01")) (wCons (wC (.str "a*")) (wCons (wC (.str "*1")) (wCons (wC (.str ":")) (wCons (wC (.str "a:1")) (wCons (wC (.str "a::")) (wCons (wC (.str "c*1")) (wCons (wC (.str "")) (wCons (wC (.str "A")) (wCons (wC (.str "a*1*1")) (wNil)))))))))))))))))))) (wSeq (wSet 1 (wOp oAdd (wVar 1) (wLst (wCons (wC (.str "abcdefgh:")) (wCons (wC (.str "abcdefghi")) (wCons (wC (.str "abcdefghi:")) (wCons (wC (.str "abcdefgh*9")) (wCons (wC (.str "a*+1")) (wCons (wC (.str "a*-1")) (wCons (wC (.str "a *1")) (wCons (wC (.str "a1")) (wCons (wC (.str "1")) (wCons (wC (.str "a*1:")) (wNil)))))))))))))) (wRet (wM1 oJoin (wC (.str " ")) (wLc [2] (wiR1 (wCons (wOp oAdd (wC (.int 1)) (wCallIo fs_law_drawS 0 [] (wCons (wC (.int 6)) (wNil)))) (wNil))) (wgName 2) (wYes) (wOp oIx (wVar 1) (wCallIo fs_law_drawS 0 [] (wCons (wC (.int 27)) (wNil))))))))
theorem fv_law_menu_line : FnV fs_law_menu_line 3 w_law_menu_line := by
  rintro io ds Q X ⟨n, d, rfl, hs, hn, rfl, q⟩
  show w_law_menu_line [.io d, .no, .no] _ _
  have sp1 : (" " : Str).length = 1 := by decide +kernel
  simp [w_law_menu_line]
  refine ⟨smallE (by omega), ?_⟩
  suffices hh : wLc [2] (wiR1 (wCons (wOp oAdd (wC (.int 1)) (wCallIo fs_law_drawS 0 [] (wCons (wC (.int 6)) wNil))) wNil)) (wgName 2) wYes (wOp oIx (wVar 1) (wCallIo fs_law_drawS 0 [] (wCons (wC (.int 27)) wNil)))
      [.io d, .ow (.list (mnL.map .str)), .no] (fun rb Γ2 => rdW rb Γ2 fun b => oJoin (.str " ") b fun r => retW r Γ2 fun r' Γ' => SameIo (some (.io d)) (ioOf (some (.io d)) Γ') ∧ Q r' (ioOf (some (.io d)) Γ')) (fun x Γ => SameIo (some (.io d)) (ioOf (some (.io d)) Γ) ∧ X x (ioOf (some (.io d)) Γ)) from hh
  rw [ev_wLc]
  simp
  refine drwS (m := 6) hs (by omega) (by omega) (by omega) fun r1 d1 a1 a2 h1 => ?_
  simp [okW, wipeE]
  refine ⟨by omega, by omega, ?_⟩
  refine lc_inv (fun i acc Γ => ∃ (d2 : D) (ys : List Str), Γ = [.io d2, .ow (.list (mnL.map .str)), .no] ∧ StrOk (n + 1 + i) d2 ∧ acc = ys.map .str ∧ ys.length = i ∧ ∀ y ∈ ys, y ∈ mnL) ⟨d1, [], rfl, h1, rfl, rfl, fun y hy => nomatch hy⟩ ?_ ?_
  · rintro i x acc Γ k hx ⟨d2, ys, rfl, h2, rfl, hl, hy⟩ hk
    have hi := (List.getElem?_eq_some_iff.mp hx).1
    simp [rangeD] at hi
    simp [lcT]
    refine drwS (m := 27) h2 (by omega) (by omega) (by omega) fun r2 d3 b1 b2 h3 => ?_
    simp
    refine pick (l := mnL.map .str) (by omega) (by rw [List.length_map]; exact b2) fun y hm => ?_
    obtain ⟨z, hz, rfl⟩ := List.mem_map.mp hm
    simp [wipeE]
    refine ⟨small (by omega), hk _ _ ⟨d3, ys ++ [z], rfl, h3, by simp, by simp [hl], fun y hy' => ?_⟩⟩
    rcases List.mem_append.mp hy' with h | h
    · exact hy y h
    · have : y = z := by simpa using h
      exact this ▸ hz
  · rintro acc Γ ⟨d2, ys, rfl, h2, rfl, hl, hy⟩
    simp [rangeD] at hl h2
    have hj := joinL_ok (ys.map cs) fun p hp => by
      obtain ⟨y, hy', rfl⟩ := List.mem_map.mp hp
      obtain ⟨g1, g2, g3⟩ := mnL_ok y (hy y hy')
      exact ⟨g1, by rw [cs_len]; exact g2, g3⟩
    rw [← join_cs, List.length_map] at hj
    have hsum : ∀ zs : List Str, (∀ y ∈ zs, y ∈ mnL) → (zs.map (·.length)).sum ≤ 10 * zs.length := fun zs => by
      induction zs with
      | nil => intro _; simp
      | cons z zs ih =>
        intro h
        have := ih fun y hy => h y (List.mem_cons_of_mem _ hy)
        have := (mnL_ok z (h z List.mem_cons_self)).2.1
        simp only [List.map_cons, List.sum_cons, List.length_cons]
        omega
    have hs2 := hsum ys hy
    simp [restE, oJoin]
    refine ⟨ys, rfl, by rw [sp1]; omega, ?_⟩
    refine q _ d2 hj.1 (by rw [← cs_len]; omega) (by omega) ?_
    exact h2.mono (by omega)
def wLine : WS := wSeq (wSet 8 (wAndV (wOp (oIB fun i j => decide (i ≤ j)) (wCB (o1 oLen) (wCons (wVar 7) (wNil))) (wC (.int 3000))) (wNotV (wCall fs_law_has_long_number [] (wCons (wVar 7) (wNil)))))) (wIfS (wAnd (wT (wVar 8)) (wNot (wT (wFz (wCall fs_law_same [] (wCons (wCall fs_law_found [] (wCons (wVar 7) (wNil))) (wCons (wCall fs_law_parse [] (wCons (wVar 7) (wNil))) (wNil)))))))) (wRet (wC (.bool false))) (wNext))
def wTurn : WS := wSeq (wSet 6 (wLst (wCons (wCallIo fs_law_change 4 [] (wCons (wCall fs_law_notation [] (wCons (wCallIo fs_law_itemsS 4 [] (wCons (wC (.int 24)) (wCons (wC (.int 0)) (wNil)))) (wNil))) (wNil))) (wCons (wCallIo fs_law_menu_line 4 [] (wNil)) (wNil))))) (wSeq (wDrop (wMut 6 fAppend (wCons (wCallIo fs_law_change 4 [] (wCons (wOp oIx (wVar 6) (wC (.int 0))) (wNil))) wNil))) (wSeq (wDrop (wMut 6 fAppend (wCons (wCallIo fs_law_change 4 [] (wCons (wOp oIx (wVar 6) (wC (.int 2))) (wNil))) wNil))) (wFor (wiL (wVar 6)) (wgName 7) wLine)))
def w_law : WS := wSeq (wFor (wiL (wLst (wCons (wC .none) (wCons (wC (.int 0)) (wCons (wC (.bool true)) (wCons (wLst (wNil)) (wCons (wLst (wCons (wC (.str "a")) (wNil))) (wCons (wLst (wCons (wTup (wCons (wC (.str "bar")) (wCons (wC (.str "a")) (wNil)))) (wNil))) (wCons (wDict0) (wCons (wTup (wCons (wC (.str "a")) (wNil))) (wNil))))))))))) (wgName 1) (wIfS (wNot (wT (wFz (wCall fs_law_same [] (wCons (wCall fs_law_found [] (wCons (wVar 1) (wNil))) (wCons (wC .none) (wNil))))))) (wRet (wC (.bool false))) (wNext))) (wSeq (wExs 2 9 [.int 4, .none, .int 4, .none] (wLst (wCons (wC (.int 4)) (wCons (wC .none) (wCons (wC (.int 4)) (wCons (wC .none) (wNil)))))) (wRet (wC (.bool false)))) (wSeq (wFor (wiR1 (wCons (wCB (o2 oMax) (wCons (wC (.int 1)) (wCons (wCB (o2 oMin) (wCons (wC (.int 10)) (wCons (wLenS 0) (wNil)))) (wNil)))) (wNil))) (wgName 3) (wSeq (wSet 4 (wCallIo fs_law_sourceS 0 [] (wCons (wVar 3) (wNil)))) (wFor (wiR1 (wCons (wC (.int 5)) (wNil))) (wgName 5) wTurn))) (wRet (wC (.bool true)))))
section
variable {s0 s1 s2 s3 s4 s5 s6 s8 s9 : Sl} {x : Str} {Dn : VL.WD} {X : XW}
theorem line_ok (ha : Asc (cs x)) (hl : x.length ≤ 900000) (hc : (cs x).count 32 ≤ 280) (q : ∀ x8, Dn.nx [s0, s1, s2, s3, s4, s5, s6, .sh (.str x), x8, s9]) : wLine [s0, s1, s2, s3, s4, s5, s6, .sh (.str x), s8, s9] Dn X := by
  by_cases h3 : (x.length : Int) ≤ 3000
  · simp [wLine, h3]
    refine ⟨smallE (by omega), rfl, x, rfl, hl, fun b hb => ?_⟩
    cases b with
    | true =>
      simp
      exact q _
    | false =>
      have hn := hb rfl
      simp
      refine ⟨rfl, .inl ⟨x, rfl, ha, hn, hl, hc, fun l ho hll hf => ?_, fun n hbad => ?_⟩⟩
      · simp
        refine ⟨rfl, x, rfl, ha, hn, hl, hc, fun l2 ho2 hll2 hf2 => ?_, fun n hbad => ?_⟩
        · have e : l2 = l := (fmt_inj (ok_shows ho2) (ok_shows ho)).mp (by rw [hf2, hf])
          subst e
          simp
          refine ⟨rfl, _, rfl, sc_same ho (by omega) 1, ?_⟩
          simp
          exact q _
        · subst hf
          exact (bad_not ho hbad).elim
      · simp
        refine ⟨rfl, x, rfl, ha, hn, hl, hc, fun l2 ho2 hll2 hf2 => ?_, fun m hbad2 => ?_⟩
        · subst hf2
          exact (bad_not ho2 hbad).elim
        · have e := bad_uniq hbad2 hbad
          subst e
          simp
          refine ⟨rfl, _, rfl, .inl True.intro, ?_⟩
          simp
          exact q _
  · simp [wLine, h3]
    exact ⟨smallE (by omega), q _⟩
end
section
variable {s0 s1 s2 s3 s5 s6 s7 s8 s9 : Sl} {n : Nat} {d : D} {Dn : VL.WD} {X : XW}
theorem turn_ok (hs : StrOk n d) (hn : n ≤ 800000) (q : ∀ d' x6 x7 x8, StrOk (n + 2100) d' → Dn.nx [s0, s1, s2, s3, .ow d', s5, x6, x7, x8, s9]) : wTurn [s0, s1, s2, s3, .ow d, s5, s6, s7, s8, s9] Dn X := by
  simp [wTurn, -ev_wFor]
  refine ⟨n, d, 24, rfl, hs, by omega, rfl, by decide, by decide, fun l d1 ho hl _ _ hcc h1 => ?_⟩
  have hsh := ok_shows ho
  have f1 := fmt_asc hsh
  have f2 := fmt_len2 hsh
  have f3 := fmt_cnt hsh
  simp [-ev_wFor]
  refine ⟨rfl, l, rfl, ho, by omega, ?_⟩
  simp [-ev_wFor]
  refine ⟨_, d1, _, rfl, h1, by omega, rfl, f1, by omega, fun y0 d2 ⟨g1, g2, g3⟩ h2 => ?_⟩
  simp [-ev_wFor]
  refine ⟨_, d2, rfl, h2, by omega, rfl, fun y1 d3 k1 k2 k3 h3 => ?_⟩
  simp [-ev_wFor]
  refine ⟨_, d3, _, rfl, h3, by omega, rfl, g1, by omega, fun y2 d4 ⟨m1, m2, m3⟩ h4 => ?_⟩
  simp [-ev_wFor]
  refine ⟨by decide, _, d4, _, rfl, h4, by omega, rfl, m1, by omega, fun y3 d5 ⟨p1, p2, p3⟩ h5 => ?_⟩
  simp [-ev_wFor]
  refine ⟨by decide, ?_⟩
  rw [ev_wFor]
  simp
  refine loop_mem (fun Γ => ∃ (t x7 x8 : Sl), Γ = [s0, s1, s2, s3, .ow d5, s5, t, x7, x8, s9]) ⟨_, _, _, rfl⟩ ?_ ?_
  · rintro y Γ k hy ⟨t, x7, x8, rfl⟩ hk
    obtain ⟨z, rfl, z1, z2, z3⟩ : ∃ z, y = .str z ∧ Asc (cs z) ∧ z.length ≤ 900000 ∧ (cs z).count 32 ≤ 280 := by
      simp only [List.mem_cons, List.not_mem_nil, or_false] at hy
      rcases hy with rfl | rfl | rfl | rfl
      · exact ⟨_, rfl, g1, by omega, by omega⟩
      · exact ⟨_, rfl, k1, by omega, by omega⟩
      · exact ⟨_, rfl, m1, by omega, by omega⟩
      · exact ⟨_, rfl, p1, by omega, by omega⟩
    simp
    exact line_ok z1 z2 z3 fun x8 => hk _ ⟨_, _, _, rfl⟩
  · rintro Γ ⟨t, x7, x8, rfl⟩
    exact q _ _ _ _ (h5.mono (by omega))
end
theorem fv_law : FnV fsLaw 10 w_law := by
  rintro io ds Q X ⟨ns, hn, rfl, rfl, q⟩
  show w_law [.op 0 (.list (ns.map .int)), .no, .no, .no, .no, .no, .no, .no, .no, .no] _ _
  have hE : SeqAt.shaped (.list [.int 4, .none, .int 4, .none]) = true ∧ PyData.eqv (.list [.int 4, .none, .int 4, .none]) (.list [.int 4, .none, .int 4, .none]) = true := by decide +kernel
  unfold w_law
  rw [ev_wSeq, ev_wFor]
  simp [-ev_wSeq, -ev_wFor]
  refine loop_mem (fun Γ => ∃ (s1 : Sl), Γ = [.op 0 (.list (ns.map .int)), s1, .no, .no, .no, .no, .no, .no, .no, .no]) ⟨_, rfl⟩ ?_ ?_
  · rintro v Γ k hv ⟨s1, rfl⟩ hk
    have hns : ∀ s, v ≠ .str s := by
      rintro s rfl
      simp at hv
    simp
    refine ⟨rfl, .inr ⟨v, rfl, hns, ?_⟩⟩
    simp
    refine ⟨rfl, _, rfl, .inl True.intro, ?_⟩
    simp
    exact hk _ ⟨_, rfl⟩
  · rintro Γ ⟨s1, rfl⟩
    obtain ⟨m, hm, m1⟩ := rounds' 10 (by decide) ns.length
    dsimp only
    rw [ev_wSeq, ev_wExs]
    simp [okW, hE.1, hE.2, -ev_wFor, -ev_wSeq]
    refine ⟨by decide, ?_⟩
    rw [ev_wSeq, ev_wFor]
    simp [hm, -ev_wFor, -ev_wSeq]
    refine ⟨by omega, ?_⟩
    refine loop_inv (fun i Γ => ∃ (a1 a3 a4 a5 a6 a7 a8 : Sl), Γ = [.op 0 (.list (ns.map .int)), a1, .no, a3, a4, a5, a6, a7, a8, .no]) ⟨_, _, _, _, _, _, _, rfl⟩ ?_ ?_
    · rintro i x Γ k hx ⟨a1, a3, a4, a5, a6, a7, a8, rfl⟩ hk
      have hil := (List.getElem?_eq_some_iff.mp hx).1
      simp [rangeD] at hil
      simp only [rangeD, List.getElem?_map] at hx
      rw [List.getElem?_range (by omega)] at hx
      cases (Option.some.inj hx)
      simp [-ev_wFor]
      refine ⟨ns, i, rfl, hn, rfl, by omega, fun d hs => ?_⟩
      simp [-ev_wFor]
      rw [ev_wFor]
      simp
      refine loop_inv (fun j Γ => ∃ (d : D) (a5 a6 a7 a8 : Sl), Γ = [.op 0 (.list (ns.map .int)), a1, .no, .sh (.int (i : Int)), .ow d, a5, a6, a7, a8, .no] ∧ StrOk (2100 * j) d) ⟨d, _, _, _, _, rfl, hs⟩ ?_ ?_
      · rintro j y Γ k2 hy ⟨d, a5, a6, a7, a8, rfl, hs⟩ hk2
        have hjl := (List.getElem?_eq_some_iff.mp hy).1
        simp [rangeD] at hjl
        simp
        exact turn_ok hs (by omega) fun d' x6 x7 x8 h => hk2 _ ⟨_, _, _, _, _, rfl, h.mono (by omega)⟩
      · rintro Γ ⟨d, a5, a6, a7, a8, rfl, hs⟩
        exact hk _ ⟨_, _, _, _, _, _, _, rfl⟩
    · rintro Γ ⟨a1, a3, a4, a5, a6, a7, a8, rfl⟩
      simp
      exact q _ rfl
end K56

set_option Elab.async false
set_option linter.all false
set_option maxRecDepth 100000
set_option maxHeartbeats 400000
namespace K56
open PySem L2 VL SC
abbrev N_law_draw : List Str := ["_law_source_here", "_law_bound", "_law_digit", "_law_mixed"]
theorem sc_law_draw : FnScope N_law_draw ["_law_source_here", "_law_bound"] (defScope s_law_draw) := ⟨rfl, rfl, rfl, by decide +kernel, rfl, by decide +kernel, by decide +kernel⟩
abbrev N_law_change : List Str := ["_law_source_here", "_law_line", "_law_one", "_law_two", "_law_low", "_law_high", "_law_sign", "_law_menu"]
theorem sc_law_change : FnScope N_law_change ["_law_source_here", "_law_line"] (defScope s_law_change) := ⟨rfl, rfl, rfl, by decide +kernel, rfl, by decide +kernel, by decide +kernel⟩
abbrev N_law_kind : List Str := ["_law_error", "_law_pairs", "_law_others", "_law_matches", "_law_word", "_law_holds"]
theorem sc_law_kind : FnScope N_law_kind ["_law_error"] (defScope s_law_kind) := ⟨rfl, rfl, rfl, by decide +kernel, rfl, by decide +kernel, by decide +kernel⟩
abbrev N_is_name : List Str := ["value", "letter"]
theorem sc_is_name : FnScope N_is_name ["value"] (defScope s_is_name) := ⟨rfl, rfl, rfl, by decide +kernel, rfl, by decide +kernel, by decide +kernel⟩
abbrev N_parse_integer : List Str := ["word", "digit"]
theorem sc_parse_integer : FnScope N_parse_integer ["word"] (defScope s_parse_integer) := ⟨rfl, rfl, rfl, by decide +kernel, rfl, by decide +kernel, by decide +kernel⟩
abbrev N_parse_item : List Str := ["word", "marks", "name", "star", "digits", "count"]
theorem sc_parse_item : FnScope N_parse_item ["word", "marks"] (defScope s_parse_item) := ⟨rfl, rfl, rfl, by decide +kernel, rfl, by decide +kernel, by decide +kernel⟩
abbrev N_parse_score : List Str := ["text", "items", "marks", "index", "word", "item"]
theorem sc_parse_score : FnScope N_parse_score ["text"] (defScope s_parse_score) := ⟨rfl, rfl, rfl, by decide +kernel, rfl, by decide +kernel, by decide +kernel⟩
abbrev N_law_found : List Str := ["_law_line", "_law_found_here", "_law_caught", "_law_error"]
theorem sc_law_found : FnScope N_law_found ["_law_line"] (defScope s_law_found) := ⟨rfl, rfl, rfl, by decide +kernel, rfl, by decide +kernel, by decide +kernel⟩
abbrev N_law_has_long_number : List Str := ["_law_line", "_law_digits", "_law_most", "_law_sign"]
theorem sc_law_has_long_number : FnScope N_law_has_long_number ["_law_line"] (defScope s_law_has_long_number) := ⟨rfl, rfl, rfl, by decide +kernel, rfl, by decide +kernel, by decide +kernel⟩
abbrev N_law_items : List Str := ["_law_source_here", "_law_most", "_law_cap", "_law_words", "_law_items_here", "_law_recorded", "_law_steps", "_law_index", "_law_choice", "_law_name", "_law_item_here", "_law_target", "_law_jumps", "_law_later"]
theorem sc_law_items : FnScope N_law_items ["_law_source_here", "_law_most", "_law_cap"] (defScope s_law_items) := ⟨rfl, rfl, rfl, by decide +kernel, rfl, by decide +kernel, by decide +kernel⟩
abbrev N_law_menu_line : List Str := ["_law_source_here", "_law_words", "_law_turn"]
theorem sc_law_menu_line : FnScope N_law_menu_line ["_law_source_here"] (defScope s_law_menu_line) := ⟨rfl, rfl, rfl, by decide +kernel, rfl, by decide +kernel, by decide +kernel⟩
abbrev N_law_notation : List Str := ["_law_items_here", "_law_words", "_law_item_here", "_law_tail"]
theorem sc_law_notation : FnScope N_law_notation ["_law_items_here"] (defScope s_law_notation) := ⟨rfl, rfl, rfl, by decide +kernel, rfl, by decide +kernel, by decide +kernel⟩
abbrev N_law_integer : List Str := ["_law_word", "_law_digit"]
theorem sc_law_integer : FnScope N_law_integer ["_law_word"] (defScope s_law_integer) := ⟨rfl, rfl, rfl, by decide +kernel, rfl, by decide +kernel, by decide +kernel⟩
abbrev N_law_is_name : List Str := ["_law_word", "_law_letter"]
theorem sc_law_is_name : FnScope N_law_is_name ["_law_word"] (defScope s_law_is_name) := ⟨rfl, rfl, rfl, by decide +kernel, rfl, by decide +kernel, by decide +kernel⟩
abbrev N_law_item : List Str := ["_law_word", "_law_marks", "_law_parts", "_law_jumps"]
theorem sc_law_item : FnScope N_law_item ["_law_word", "_law_marks"] (defScope s_law_item) := ⟨rfl, rfl, rfl, by decide +kernel, rfl, by decide +kernel, by decide +kernel⟩
abbrev N_law_parse : List Str := ["_law_line", "_law_items_here", "_law_marks", "_law_index", "_law_word", "_law_item_here"]
theorem sc_law_parse : FnScope N_law_parse ["_law_line"] (defScope s_law_parse) := ⟨rfl, rfl, rfl, by decide +kernel, rfl, by decide +kernel, by decide +kernel⟩
abbrev N_law_same : List Str := ["_law_found_here", "_law_due", "_law_one", "_law_two"]
theorem sc_law_same : FnScope N_law_same ["_law_found_here", "_law_due"] (defScope s_law_same) := ⟨rfl, rfl, rfl, by decide +kernel, rfl, by decide +kernel, by decide +kernel⟩
abbrev N_law_source : List Str := ["_law_script", "_law_k", "_law_cell"]
theorem sc_law_source : FnScope N_law_source ["_law_script", "_law_k"] (defScope s_law_source) := ⟨rfl, rfl, rfl, by decide +kernel, rfl, by decide +kernel, by decide +kernel⟩
abbrev N_law : List Str := ["_law_script", "_law_value", "_law_made", "_law_k", "_law_source_here", "_law_turn", "_law_lines", "_law_line", "_law_known", "_law_error"]
theorem sc_law : FnScope N_law ["_law_script"] (defScope s_law) := ⟨rfl, rfl, rfl, by decide +kernel, rfl, by decide +kernel, by decide +kernel⟩
structure Ms (K : Fg) (mg : Str → Option Value) : Prop where
  f_ValueError : mg "ValueError" = none
  f_abs : mg "abs" = none
  f_all : mg "all" = none
  f_bool : mg "bool" = none
  f_enumerate : mg "enumerate" = none
  f_int : mg "int" = none
  f_isinstance : mg "isinstance" = none
  f_len : mg "len" = none
  f_list : mg "list" = none
  f_max : mg "max" = none
  f_min : mg "min" = none
  f_range : mg "range" = none
  f_str : mg "str" = none
  f_tuple : mg "tuple" = none
  f_zip : mg "zip" = none
  c_BAR : ∃ t, mg "BAR" = some (.str "bar" t)
  c_DIGITS : ∃ t, mg "DIGITS" = some (.str "0123456789" t)
  c_LETTERS : ∃ t, mg "LETTERS" = some (.str "abcdefghijklmnopqrstuvwxyz" t)
  c_MARK : ∃ t, mg "MARK" = some (.str "mark" t)
  c_MAX_NAME_LENGTH : ∃ t, mg "MAX_NAME_LENGTH" = some (.int 8 t)
  c_REPEAT : ∃ t, mg "REPEAT" = some (.str "repeat" t)
  k_EndReached : mg "EndReached" = some (.ref (He.ga K "EndReached"))
  k_InvalidBar : mg "InvalidBar" = some (.ref (He.ga K "InvalidBar"))
  k_InvalidCommand : mg "InvalidCommand" = some (.ref (He.ga K "InvalidCommand"))
  k_InvalidCount : mg "InvalidCount" = some (.ref (He.ga K "InvalidCount"))
  k_InvalidPlayback : mg "InvalidPlayback" = some (.ref (He.ga K "InvalidPlayback"))
  k_InvalidPosition : mg "InvalidPosition" = some (.ref (He.ga K "InvalidPosition"))
  k_InvalidRepeat : mg "InvalidRepeat" = some (.ref (He.ga K "InvalidRepeat"))
  k_InvalidScore : mg "InvalidScore" = some (.ref (He.ga K "InvalidScore"))
  k_InvalidState : mg "InvalidState" = some (.ref (He.ga K "InvalidState"))
  k_InvalidTime : mg "InvalidTime" = some (.ref (He.ga K "InvalidTime"))
  k_InvalidWeights : mg "InvalidWeights" = some (.ref (He.ga K "InvalidWeights"))
  k_LimitExceeded : mg "LimitExceeded" = some (.ref (He.ga K "LimitExceeded"))
  k_NotReconstructible : mg "NotReconstructible" = some (.ref (He.ga K "NotReconstructible"))
  k_NotSimple : mg "NotSimple" = some (.ref (He.ga K "NotSimple"))
  k_ParseError : mg "ParseError" = some (.ref (He.ga K "ParseError"))
  k_ScoreError : mg "ScoreError" = some (.ref (He.ga K "ScoreError"))
  k_StartReached : mg "StartReached" = some (.ref (He.ga K "StartReached"))
  k_UnknownMark : mg "UnknownMark" = some (.ref (He.ga K "UnknownMark"))
  k_UnknownName : mg "UnknownName" = some (.ref (He.ga K "UnknownName"))
  oi : ∀ nm ∈ (["ParseError"] : List Str), OiF K nm
  o_NotReconstructible : OiF K "NotReconstructible"
  o_ParseError : OiF K "ParseError"
  xa : ExAll K ["InvalidScore", "NotSimple", "InvalidBar", "InvalidTime", "InvalidCount", "UnknownName", "InvalidCommand", "ParseError"] ["EndReached", "InvalidBar", "InvalidCommand", "InvalidCount", "InvalidPlayback", "InvalidPosition", "InvalidRepeat", "InvalidScore", "InvalidState", "InvalidTime", "InvalidWeights", "LimitExceeded", "NotReconstructible", "NotSimple", "ParseError", "StartReached", "UnknownMark", "UnknownName"]
theorem d_law_draw {P : Program} {w : World} {K : Fg} {mg : Str → Option Value} {base : Heap} {f : Addr} (M : Ms K mg)  (cdv : Value) (A : Around) (outer : List Env) (s : Shared) (H : Hp) (E : XK)
    (hr : Room 0 (A.deeper (PyProof.Rows.envOfC "_law_draw" (defScope s_law_draw) s.heap.objs.size f cdv))) : ∃ t, PSs (cxOf (L2N.CX P w) P w K mg base N_law_draw "_law_draw" (defScope s_law_draw) f cdv A outer s H E) (defBody s_law_draw) t ∧ SimS ⟨K, OpS K, He.ga K⟩ (fun c d _ H => E c d H) t w_law_drawS := by
  have hu := hu65 hr
  have tk : L2N.Takes (cxOf (L2N.CX P w) P w K mg base N_law_draw "_law_draw" (defScope s_law_draw) f cdv A outer s H E) (fun c d _ H => E c d H) := L2N.takes_of rfl rfl rfl rfl
  suffices h : ∃ t, DB (cxOf (L2N.CX P w) P w K mg base N_law_draw "_law_draw" (defScope s_law_draw) f cdv A outer s H E) ⟨K, OpS K, He.ga K⟩ (fun c d _ H => E c d H) (defBody s_law_draw) t w_law_drawS from let ⟨t, h⟩ := h; ⟨t, h.pe, h.sim⟩
  exact ⟨_, (db_cons (ds_if (dt_cmp c_gt (de_ix rfl hu (dv 0) de_int) de_int) (db_cons (ds_set 2 sc_law_draw.nd (de_mod (de_ix rfl hu (dv 0) de_int) (dv 1)))
      (db_cons (ds_lput 0 de_int (de_fdiv (de_ix rfl hu (dv 0) de_int) (dv 1)))
      (db_one (ds_ret (dv 2))))) db_nil)
      (db_cons (ds_lput 0 de_int (de_add rfl (de_ix rfl hu (dv 0) de_int) de_int))
      (db_cons (ds_set 3 sc_law_draw.nd (de_mod (de_pow (de_add rfl (de_ix rfl hu (dv 0) de_int) (de_mul de_int (de_ix rfl hu (dv 0) de_int))) de_int) (de_add rfl (de_pow de_int de_int) de_int)))
      (db_cons (ds_set 3 sc_law_draw.nd (de_mod (de_pow (de_add rfl (de_mul (dv 3) de_int) (de_mul de_int (de_ix rfl hu (dv 0) de_int))) de_int) (de_add rfl (de_pow de_int de_int) de_int)))
      (db_one (ds_ret (de_mod (de_fdiv (dv 3) (de_pow de_int de_int)) (dv 1))))))))⟩
theorem d_law_change {P : Program} {w : World} {K : Fg} {mg : Str → Option Value} {base : Heap} {f : Addr} (M : Ms K mg) (g_law_draw : Gd P w ⟨K, OpS K, He.ga K⟩ mg base 1 "_law_draw" fs_law_drawS ["_law_source_here", "_law_bound"] []) (cdv : Value) (A : Around) (outer : List Env) (s : Shared) (H : Hp) (E : XK)
    (hr : Room 1 (A.deeper (PyProof.Rows.envOfC "_law_change" (defScope s_law_change) s.heap.objs.size f cdv))) : ∃ t, PSs (cxOf (L2N.CX P w) P w K mg base N_law_change "_law_change" (defScope s_law_change) f cdv A outer s H E) (defBody s_law_change) t ∧ SimS ⟨K, OpS K, He.ga K⟩ (fun c d _ H => E c d H) t w_law_change := by
  have hu := hu65 hr
  have tk : L2N.Takes (cxOf (L2N.CX P w) P w K mg base N_law_change "_law_change" (defScope s_law_change) f cdv A outer s H E) (fun c d _ H => E c d H) := L2N.takes_of rfl rfl rfl rfl
  suffices h : ∃ t, DB (cxOf (L2N.CX P w) P w K mg base N_law_change "_law_change" (defScope s_law_change) f cdv A outer s H E) ⟨K, OpS K, He.ga K⟩ (fun c d _ H => E c d H) (defBody s_law_change) t w_law_change from let ⟨t, h⟩ := h; ⟨t, h.pe, h.sim⟩
  exact ⟨_, (db_cons (ds_par 2 3 rfl sc_law_change.nd (dl_cons (de_callIo rfl 0 g_law_draw hr tk (da_cons (de_add rfl (de_b (b_len rfl) M.f_len (da_cons (dv 1) da_nil)) de_int) da_nil)) (dl_cons (de_callIo rfl 0 g_law_draw hr tk (da_cons (de_add rfl (de_b (b_len rfl) M.f_len (da_cons (dv 1) da_nil)) de_int) da_nil)) dl_nil)))
      (db_cons (ds_par 4 5 rfl sc_law_change.nd (dl_cons (de_b (b_min rfl) M.f_min (da_cons (dv 2) (da_cons (dv 3) da_nil))) (dl_cons (de_b (b_max rfl) M.f_max (da_cons (dv 2) (da_cons (dv 3) da_nil))) dl_nil)))
      (db_cons (ds_set 6 sc_law_change.nd (de_ix rfl hu de_str (de_callIo rfl 0 g_law_draw hr tk (da_cons de_int da_nil))))
      (db_cons (ds_set 7 sc_law_change.nd (de_lst (da_cons (de_add rfl (de_add rfl (de_slS (dv 1) do_none (do_some (dv 2))) (dv 6)) (de_slS (dv 1) (do_some (dv 2)) do_none)) (da_cons (de_add rfl (de_slS (dv 1) do_none (do_some (dv 2))) (de_slS (dv 1) (do_some (de_add rfl (dv 2) de_int)) do_none)) (da_cons (de_add rfl (de_add rfl (de_slS (dv 1) do_none (do_some (dv 2))) (dv 6)) (de_slS (dv 1) (do_some (de_add rfl (dv 2) de_int)) do_none)) da_nil)))))
      (db_cons (ds_set 7 sc_law_change.nd (de_add rfl (dv 7) (de_lst (da_cons (de_add rfl (de_slS (dv 1) do_none (do_some (dv 4))) (de_slS (dv 1) (do_some (dv 5)) do_none)) (da_cons (de_add rfl (de_slS (dv 1) do_none (do_some (dv 5))) (de_slS (dv 1) (do_some (dv 4)) do_none)) (da_cons (de_slS (dv 1) (do_some (dv 4)) (do_some (dv 5))) (da_cons (de_add rfl (de_slS (dv 1) (do_some (dv 5)) do_none) (de_slS (dv 1) do_none (do_some (dv 5)))) da_nil)))))))
      (db_cons (ds_set 7 sc_law_change.nd (de_add rfl (dv 7) (de_lst (da_cons (de_add rfl (de_add rfl (dv 1) de_str) (de_slS (dv 1) do_none (do_some de_int))) (da_cons de_str (da_cons (de_add rfl (dv 1) (dv 6)) da_nil))))))
      (db_one (ds_ret (de_ix rfl hu (dv 7) (de_callIo rfl 0 g_law_draw hr tk (da_cons de_int da_nil)))))))))))⟩
theorem d_law_kind {P : Program} {w : World} {K : Fg} {mg : Str → Option Value} {base : Heap} {f : Addr} (M : Ms K mg)  (cdv : Value) (A : Around) (outer : List Env) (s : Shared) (H : Hp) (E : XK)
    (hr : Room 0 (A.deeper (PyProof.Rows.envOfC "_law_kind" (defScope s_law_kind) s.heap.objs.size f cdv))) : ∃ t, PSs (cxOf (L2N.CX P w) P w K mg base N_law_kind "_law_kind" (defScope s_law_kind) f cdv A outer s H E) (defBody s_law_kind) t ∧ SimS ⟨K, OpS K, He.ga K⟩ (fun c d _ H => E c d H) t w_law_kindC := by
  have hu := hu65 hr
  have tk : L2N.Takes (cxOf (L2N.CX P w) P w K mg base N_law_kind "_law_kind" (defScope s_law_kind) f cdv A outer s H E) (fun c d _ H => E c d H) := L2N.takes_of rfl rfl rfl rfl
  suffices h : ∃ t, DB (cxOf (L2N.CX P w) P w K mg base N_law_kind "_law_kind" (defScope s_law_kind) f cdv A outer s H E) ⟨K, OpS K, He.ga K⟩ (fun c d _ H => E c d H) (defBody s_law_kind) t w_law_kindC from let ⟨t, h⟩ := h; ⟨t, h.pe, h.sim⟩
  exact ⟨_, (db_cons (ds_set 1 sc_law_kind.nd (de_lst (da_cons (de_tup (da_cons de_str (da_cons (de_isK rfl opLe_s M.xa 0 M.f_isinstance M.k_InvalidScore) da_nil))) (da_cons (de_tup (da_cons de_str (da_cons (de_isK rfl opLe_s M.xa 0 M.f_isinstance M.k_InvalidTime) da_nil))) da_nil))))
      (db_cons (ds_set 1 sc_law_kind.nd (de_add rfl (dv 1) (de_lst (da_cons (de_tup (da_cons de_str (da_cons (de_isK rfl opLe_s M.xa 0 M.f_isinstance M.k_EndReached) da_nil))) (da_cons (de_tup (da_cons de_str (da_cons (de_isK rfl opLe_s M.xa 0 M.f_isinstance M.k_StartReached) da_nil))) da_nil)))))
      (db_cons (ds_set 1 sc_law_kind.nd (de_add rfl (dv 1) (de_lst (da_cons (de_tup (da_cons de_str (da_cons (de_isK rfl opLe_s M.xa 0 M.f_isinstance M.k_ParseError) da_nil))) (da_cons (de_tup (da_cons de_str (da_cons (de_isK rfl opLe_s M.xa 0 M.f_isinstance M.k_UnknownName) da_nil))) da_nil)))))
      (db_cons (ds_set 1 sc_law_kind.nd (de_add rfl (dv 1) (de_lst (da_cons (de_tup (da_cons de_str (da_cons (de_isK rfl opLe_s M.xa 0 M.f_isinstance M.k_InvalidCommand) da_nil))) (da_cons (de_tup (da_cons de_str (da_cons (de_isK rfl opLe_s M.xa 0 M.f_isinstance M.k_InvalidBar) da_nil))) da_nil)))))
      (db_cons (ds_set 1 sc_law_kind.nd (de_add rfl (dv 1) (de_lst (da_cons (de_tup (da_cons de_str (da_cons (de_isK rfl opLe_s M.xa 0 M.f_isinstance M.k_InvalidCount) da_nil))) (da_cons (de_tup (da_cons de_str (da_cons (de_isK rfl opLe_s M.xa 0 M.f_isinstance M.k_NotSimple) da_nil))) da_nil)))))
      (db_cons (ds_set 2 sc_law_kind.nd (de_isKT rfl opLe_s M.xa 0 M.f_isinstance (dc_cons rfl M.k_InvalidPlayback (dc_cons rfl M.k_InvalidPosition (dc_cons rfl M.k_InvalidRepeat (dc_cons rfl M.k_InvalidState (dc_cons rfl M.k_InvalidWeights dc_nil)))))))
      (db_cons (ds_set 2 sc_law_kind.nd (de_or (dv 2) (de_one (de_isKT rfl opLe_s M.xa 0 M.f_isinstance (dc_cons rfl M.k_LimitExceeded (dc_cons rfl M.k_NotReconstructible (dc_cons rfl M.k_UnknownMark dc_nil)))))))
      (db_cons (ds_setLc 3 (own := [("_law_word", 4), ("_law_holds", 5)]) rfl sc_law_kind.nd (di_list rfl (dv 1)) (blkOk_by (N := N_law_kind) (sc := defScope s_law_kind) (by decide +kernel)) (by decide) (fun _ _ _ _ _ => (dgw_tup (n := 2) rfl rfl (dgsw_cons (dgw_name 4 sc_law_kind.nd) (dgsw_cons (dgw_name 5 sc_law_kind.nd) dgsw_nil)))) (fun _ _ _ _ _ => (dts_one (dt_val (dv 5)))) (fun _ _ _ _ _ => (dv 4)) (sw_true rfl rfl rfl (by decide +kernel)))
      (db_one (ds_ret (de_if (dt_chn (dw_or (dt_val (dv 2)) (dw_or (dt_cmp (c_ne rfl hu) (de_b (b_len rfl) M.f_len (da_cons (dv 3) da_nil)) de_int) (dw_or1 (dt_not (dt_val (de_isKV rfl opLe_s M.xa 0 M.f_isinstance M.f_ValueError))))))) de_str (de_ix rfl hu (dv 3) de_int))))))))))))⟩
theorem d_is_name {P : Program} {w : World} {K : Fg} {mg : Str → Option Value} {base : Heap} {f : Addr} (M : Ms K mg)  (cdv : Value) (A : Around) (outer : List Env) (s : Shared) (H : Hp) (E : XK)
    (hr : Room 0 (A.deeper (PyProof.Rows.envOfC "is_name" (defScope s_is_name) s.heap.objs.size f cdv))) : ∃ t, PSs (cxOf (L2N.CX P w) P w K mg base N_is_name "is_name" (defScope s_is_name) f cdv A outer s H E) (defBody s_is_name) t ∧ SimS ⟨K, OpS K, He.ga K⟩ (fun c d _ H => E c d H) t w_is_nameX := by
  have hu := hu65 hr
  have tk : L2N.Takes (cxOf (L2N.CX P w) P w K mg base N_is_name "is_name" (defScope s_is_name) f cdv A outer s H E) (fun c d _ H => E c d H) := L2N.takes_of rfl rfl rfl rfl
  suffices h : ∃ t, DB (cxOf (L2N.CX P w) P w K mg base N_is_name "is_name" (defScope s_is_name) f cdv A outer s H E) ⟨K, OpS K, He.ga K⟩ (fun c d _ H => E c d H) (defBody s_is_name) t w_is_nameX from let ⟨t, h⟩ := h; ⟨t, h.pe, h.sim⟩
  exact ⟨_, (db_cons (ds_if (dt_chn (dw_or (dt_not (dt_val (de_isi rfl kit_str M.f_isinstance M.f_str (dv 0)))) (dw_or1 (dt_not (dt_chain c_le c_le de_int (de_b (b_len rfl) M.f_len (da_cons (dv 0) da_nil)) (de_gint M.c_MAX_NAME_LENGTH)))))) (db_one (ds_ret de_bl)) db_nil)
      (db_one (ds_ret (de_b (b_all rfl rfl) M.f_all (da_cons (de_lc (own := [("letter", 1)]) rfl sc_is_name.nd (di_str (dv 0)) (blkOk_by (N := N_is_name) (sc := defScope s_is_name) (by decide +kernel)) (by decide) (fun _ _ _ _ _ => (dgw_name 1 sc_is_name.nd)) (fun _ _ _ _ _ => dts_nil) (fun _ _ _ _ _ => (de_cmp (c_in rfl hu) (dv 1) (de_gstr M.c_LETTERS)))) da_nil)))))⟩
theorem d_parse_integer {P : Program} {w : World} {K : Fg} {mg : Str → Option Value} {base : Heap} {f : Addr} (M : Ms K mg)  (cdv : Value) (A : Around) (outer : List Env) (s : Shared) (H : Hp) (E : XK)
    (hr : Room 0 (A.deeper (PyProof.Rows.envOfC "parse_integer" (defScope s_parse_integer) s.heap.objs.size f cdv))) : ∃ t, PSs (cxOf (L2N.CX P w) P w K mg base N_parse_integer "parse_integer" (defScope s_parse_integer) f cdv A outer s H E) (defBody s_parse_integer) t ∧ SimS ⟨K, OpS K, He.ga K⟩ (fun c d _ H => E c d H) t w_parse_integerX := by
  have hu := hu65 hr
  have tk : L2N.Takes (cxOf (L2N.CX P w) P w K mg base N_parse_integer "parse_integer" (defScope s_parse_integer) f cdv A outer s H E) (fun c d _ H => E c d H) := L2N.takes_of rfl rfl rfl rfl
  suffices h : ∃ t, DB (cxOf (L2N.CX P w) P w K mg base N_parse_integer "parse_integer" (defScope s_parse_integer) f cdv A outer s H E) ⟨K, OpS K, He.ga K⟩ (fun c d _ H => E c d H) (defBody s_parse_integer) t w_parse_integerX from let ⟨t, h⟩ := h; ⟨t, h.pe, h.sim⟩
  exact ⟨_, (db_cons (ds_if (dt_chn (dw_or (dt_cmp (c_eq rfl hu) (dv 0) de_str) (dw_or1 (dt_not (dt_val (de_b (b_all rfl rfl) M.f_all (da_cons (de_lc (own := [("digit", 1)]) rfl sc_parse_integer.nd (di_str (dv 0)) (blkOk_by (N := N_parse_integer) (sc := defScope s_parse_integer) (by decide +kernel)) (by decide) (fun _ _ _ _ _ => (dgw_name 1 sc_parse_integer.nd)) (fun _ _ _ _ _ => dts_nil) (fun _ _ _ _ _ => (de_cmp (c_in rfl hu) (dv 1) (de_gstr M.c_DIGITS)))) da_nil))))))) (db_one (ds_ret de_non)) db_nil)
      (db_one (ds_ret (de_if (dt_chn (dw_and (dt_cmp (c_eq rfl hu) (de_ix rfl hu (dv 0) de_int) de_str) (dw_and1 (dt_cmp (c_ne rfl hu) (dv 0) de_str)))) de_non (de_t t_intS M.f_int (da_cons (dv 0) da_nil))))))⟩
theorem d_parse_item {P : Program} {w : World} {K : Fg} {mg : Str → Option Value} {base : Heap} {f : Addr} (M : Ms K mg) (g_is_name : Gd P w ⟨K, OpS K, He.ga K⟩ mg base 1 "is_name" fs_is_nameX ["value"] []) (g_parse_integer : Gd P w ⟨K, OpS K, He.ga K⟩ mg base 1 "parse_integer" fs_parse_integerX ["word"] []) (cdv : Value) (A : Around) (outer : List Env) (s : Shared) (H : Hp) (E : XK)
    (hr : Room 1 (A.deeper (PyProof.Rows.envOfC "parse_item" (defScope s_parse_item) s.heap.objs.size f cdv))) : ∃ t, PSs (cxOf (L2N.CX P w) P w K mg base N_parse_item "parse_item" (defScope s_parse_item) f cdv A outer s H E) (defBody s_parse_item) t ∧ SimS ⟨K, OpS K, He.ga K⟩ (fun c d _ H => E c d H) t w_parse_itemX := by
  have hu := hu65 hr
  have tk : L2N.Takes (cxOf (L2N.CX P w) P w K mg base N_parse_item "parse_item" (defScope s_parse_item) f cdv A outer s H E) (fun c d _ H => E c d H) := L2N.takes_of rfl rfl rfl rfl
  suffices h : ∃ t, DB (cxOf (L2N.CX P w) P w K mg base N_parse_item "parse_item" (defScope s_parse_item) f cdv A outer s H E) ⟨K, OpS K, He.ga K⟩ (fun c d _ H => E c d H) (defBody s_parse_item) t w_parse_itemX from let ⟨t, h⟩ := h; ⟨t, h.pe, h.sim⟩
  exact ⟨_, (db_cons (ds_if (dt_val (de_call rfl g_is_name hr tk (da_cons (dv 0) da_nil))) (db_one (ds_ret (de_tup (da_cons (de_gstr M.c_BAR) (da_cons (dv 0) da_nil))))) db_nil)
      (db_cons (ds_if (dt_val (de_ends (dv 0) de_str)) (db_cons (ds_set 2 sc_parse_item.nd (de_slS (dv 0) do_none (do_some (de_neg de_int))))
      (db_one (ds_ret (de_if (dt_chn (dw_and (dt_val (de_call rfl g_is_name hr tk (da_cons (dv 2) da_nil))) (dw_and1 (dt_cmp (c_notin rfl hu) (dv 2) (dv 1))))) (de_tup (da_cons (de_gstr M.c_MARK) (da_cons (dv 2) da_nil))) de_non)))) db_nil)
      (db_cons (ds_asg (de_part (dv 0) de_str) (dg_tup (n := 3) rfl rfl (dgs_cons (dg_name 2 sc_parse_item.nd) (dgs_cons (dg_name 3 sc_parse_item.nd) (dgs_cons (dg_name 4 sc_parse_item.nd) dgs_nil)))))
      (db_cons (ds_set 5 sc_parse_item.nd (de_call rfl g_parse_integer hr tk (da_cons (dv 4) da_nil)))
      (db_cons (ds_if (dt_chn (dw_or (dt_cmp (c_eq rfl hu) (dv 3) de_str) (dw_or (dt_cmp (c_notin rfl hu) (dv 2) (dv 1)) (dw_or (dt_cmp c_isN (dv 5) de_non) (dw_or1 (dt_cmp (c_eq rfl hu) (dv 5) de_int)))))) (db_one (ds_ret de_non)) db_nil)
      (db_one (ds_ret (de_tup (da_cons (de_gstr M.c_REPEAT) (da_cons (dv 2) (da_cons (dv 5) da_nil)))))))))))⟩
theorem d_parse_score {P : Program} {w : World} {K : Fg} {mg : Str → Option Value} {base : Heap} {f : Addr} (M : Ms K mg) (g_parse_item : Gd P w ⟨K, OpS K, He.ga K⟩ mg base 2 "parse_item" fs_parse_itemX ["word", "marks"] []) (i_ParseError : MkI P w K mg base "ParseError") (cdv : Value) (A : Around) (outer : List Env) (s : Shared) (H : Hp) (E : XK)
    (hr : Room 2 (A.deeper (PyProof.Rows.envOfC "parse_score" (defScope s_parse_score) s.heap.objs.size f cdv))) : ∃ t, PSs (cxOf (L2N.CX P w) P w K mg base N_parse_score "parse_score" (defScope s_parse_score) f cdv A outer s H E) (defBody s_parse_score) t ∧ SimS ⟨K, OpS K, He.ga K⟩ (fun c d _ H => E c d H) t w_parse_scoreY := by
  have hu := hu65 hr
  have tk : L2N.Takes (cxOf (L2N.CX P w) P w K mg base N_parse_score "parse_score" (defScope s_parse_score) f cdv A outer s H E) (fun c d _ H => E c d H) := L2N.takes_of rfl rfl rfl rfl
  suffices h : ∃ t, DB (cxOf (L2N.CX P w) P w K mg base N_parse_score "parse_score" (defScope s_parse_score) f cdv A outer s H E) ⟨K, OpS K, He.ga K⟩ (fun c d _ H => E c d H) (defBody s_parse_score) t w_parse_scoreY from let ⟨t, h⟩ := h; ⟨t, h.pe, h.sim⟩
  exact ⟨_, (db_cons (ds_if (dt_not (dt_val (de_isi rfl kit_str M.f_isinstance M.f_str (dv 0)))) (db_one (ds_raiseI0 rfl rfl rfl (hr.mono (by decide)) tk i_ParseError)) db_nil)
      (db_cons (ds_set 1 sc_parse_score.nd (de_lst da_nil))
      (db_cons (ds_set 2 sc_parse_score.nd de_dict0)
      (db_cons (ds_for .leaving rfl (di_enum rfl M.f_enumerate (da_cons (de_if (dt_cmp (c_ne rfl hu) (dv 0) de_str) (de_split (dv 0) de_str) (de_lst da_nil)) da_nil)) (dg_tup (n := 2) rfl rfl (dgs_cons (dg_name 3 sc_parse_score.nd) (dgs_cons (dg_name 4 sc_parse_score.nd) dgs_nil))) (db_cons (ds_set 5 sc_parse_score.nd (de_callB2 rfl g_parse_item hr tk (da_cons (dv 4) (da_cons (dv 2) da_nil))))
      (db_cons (ds_if (dt_cmp c_isN (dv 5) de_non) (db_one (ds_raiseI rfl rfl rfl (hr.mono (by decide)) tk i_ParseError (dv 3))) db_nil)
      (db_cons (ds_if (dt_cmp (c_eq rfl hu) (de_ix rfl hu (dv 5) de_int) (de_gstr M.c_MARK)) (db_one (ds_dput hu 2 (de_ix rfl hu (dv 5) de_int) (dv 3))) db_nil)
      (db_one (ds_expr (de_append rfl 1 (dv 5))))))))
      (db_one (ds_ret (dv 1)))))))⟩
theorem d_law_found {P : Program} {w : World} {K : Fg} {mg : Str → Option Value} {base : Heap} {f : Addr} (M : Ms K mg) (g_law_kind : Gd P w ⟨K, OpS K, He.ga K⟩ mg base 3 "_law_kind" fs_law_kindC ["_law_error"] []) (g_parse_score : Gd P w ⟨K, OpS K, He.ga K⟩ mg base 3 "parse_score" fs_parse_scoreY ["text"] []) (cdv : Value) (A : Around) (outer : List Env) (s : Shared) (H : Hp) (E : XK)
    (hr : Room 3 (A.deeper (PyProof.Rows.envOfC "_law_found" (defScope s_law_found) s.heap.objs.size f cdv))) : ∃ t, PSs (cxOf (L2N.CX P w) P w K mg base N_law_found "_law_found" (defScope s_law_found) f cdv A outer s H E) (defBody s_law_found) t ∧ SimS ⟨K, OpS K, He.ga K⟩ (fun c d _ H => E c d H) t w_law_found := by
  have hu := hu65 hr
  have tk : L2N.Takes (cxOf (L2N.CX P w) P w K mg base N_law_found "_law_found" (defScope s_law_found) f cdv A outer s H E) (fun c d _ H => E c d H) := L2N.takes_of rfl rfl rfl rfl
  suffices h : ∃ t, DB (cxOf (L2N.CX P w) P w K mg base N_law_found "_law_found" (defScope s_law_found) f cdv A outer s H E) ⟨K, OpS K, He.ga K⟩ (fun c d _ H => E c d H) (defBody s_law_found) t w_law_found from let ⟨t, h⟩ := h; ⟨t, h.pe, h.sim⟩
  exact ⟨_, (db_cons (ds_set 1 sc_law_found.nd de_non)
      (db_cons (ds_set 2 sc_law_found.nd de_non)
      (db_cons (ds_try rfl rfl rfl M.xa 3 M.k_ScoreError sc_law_found.nd (fun _ _ _ tk1 => (db_one (ds_set 1 sc_law_found.nd (de_call rfl g_parse_score hr tk1 (da_cons (dv 0) da_nil))))) (fun _ _ => (db_one (ds_mov 2 3 sc_law_found.nd))))
      (db_cons (ds_if (dt_isNV 2) (db_one (ds_ret (dv 1))) db_nil)
      (db_one (ds_ret (de_if (dt_cmp (c_eq rfl hu) (de_callIo rfl 2 g_law_kind hr tk da_nil) de_str) (de_idx rfl opLe_s M.oi 2) de_str)))))))⟩
theorem d_law_has_long_number {P : Program} {w : World} {K : Fg} {mg : Str → Option Value} {base : Heap} {f : Addr} (M : Ms K mg)  (cdv : Value) (A : Around) (outer : List Env) (s : Shared) (H : Hp) (E : XK)
    (hr : Room 0 (A.deeper (PyProof.Rows.envOfC "_law_has_long_number" (defScope s_law_has_long_number) s.heap.objs.size f cdv))) : ∃ t, PSs (cxOf (L2N.CX P w) P w K mg base N_law_has_long_number "_law_has_long_number" (defScope s_law_has_long_number) f cdv A outer s H E) (defBody s_law_has_long_number) t ∧ SimS ⟨K, OpS K, He.ga K⟩ (fun c d _ H => E c d H) t w_law_has_long_number := by
  have hu := hu65 hr
  have tk : L2N.Takes (cxOf (L2N.CX P w) P w K mg base N_law_has_long_number "_law_has_long_number" (defScope s_law_has_long_number) f cdv A outer s H E) (fun c d _ H => E c d H) := L2N.takes_of rfl rfl rfl rfl
  suffices h : ∃ t, DB (cxOf (L2N.CX P w) P w K mg base N_law_has_long_number "_law_has_long_number" (defScope s_law_has_long_number) f cdv A outer s H E) ⟨K, OpS K, He.ga K⟩ (fun c d _ H => E c d H) (defBody s_law_has_long_number) t w_law_has_long_number from let ⟨t, h⟩ := h; ⟨t, h.pe, h.sim⟩
  exact ⟨_, (db_cons (pg_names (is := [1, 2]) rfl rfl (dl_cons de_int (dl_cons de_int dl_nil)) (pgs_cons (pg_name (i := 1) sc_law_has_long_number.nd rfl (by first | exact .inl rfl | exact .inr rfl)) (pgs_cons (pg_name (i := 2) sc_law_has_long_number.nd rfl (by first | exact .inl rfl | exact .inr rfl)) pgs_nil)) rfl (by decide))
      (db_cons (ds_for .leaving rfl (di_str (dv 0)) (dg_name 3 sc_law_has_long_number.nd) (db_cons (ds_set 1 sc_law_has_long_number.nd (de_if (dt_cmp (c_in rfl hu) (dv 3) de_str) (de_add rfl (dv 1) de_int) de_int))
      (db_one (ds_set 2 sc_law_has_long_number.nd (de_b (b_max rfl) M.f_max (da_cons (dv 2) (da_cons (dv 1) da_nil)))))))
      (db_one (ds_ret (de_cmp c_gt (dv 2) de_int)))))⟩
theorem d_law_items {P : Program} {w : World} {K : Fg} {mg : Str → Option Value} {base : Heap} {f : Addr} (M : Ms K mg) (g_law_draw : Gd P w ⟨K, OpS K, He.ga K⟩ mg base 1 "_law_draw" fs_law_drawS ["_law_source_here", "_law_bound"] []) (cdv : Value) (A : Around) (outer : List Env) (s : Shared) (H : Hp) (E : XK)
    (hr : Room 1 (A.deeper (PyProof.Rows.envOfC "_law_items" (defScope s_law_items) s.heap.objs.size f cdv))) : ∃ t, PSs (cxOf (L2N.CX P w) P w K mg base N_law_items "_law_items" (defScope s_law_items) f cdv A outer s H E) (defBody s_law_items) t ∧ SimS ⟨K, OpS K, He.ga K⟩ (fun c d _ H => E c d H) t w_law_itemsS := by
  have hu := hu65 hr
  have tk : L2N.Takes (cxOf (L2N.CX P w) P w K mg base N_law_items "_law_items" (defScope s_law_items) f cdv A outer s H E) (fun c d _ H => E c d H) := L2N.takes_of rfl rfl rfl rfl
  suffices h : ∃ t, DB (cxOf (L2N.CX P w) P w K mg base N_law_items "_law_items" (defScope s_law_items) f cdv A outer s H E) ⟨K, OpS K, He.ga K⟩ (fun c d _ H => E c d H) (defBody s_law_items) t w_law_itemsS from let ⟨t, h⟩ := h; ⟨t, h.pe, h.sim⟩
  exact ⟨_, (db_cons (ds_set 3 sc_law_items.nd (de_lst (da_cons de_str (da_cons de_str (da_cons de_str (da_cons de_str (da_cons de_str (da_cons de_str (da_cons de_str (da_cons de_str (da_cons de_str (da_cons de_str (da_cons de_str (da_cons de_str (da_cons de_str (da_cons de_str da_nil))))))))))))))))
      (db_cons (ds_par3 4 5 6 rfl sc_law_items.nd (dl_cons (de_lst da_nil) (dl_cons de_dict0 (dl_cons de_int dl_nil))))
      (db_cons (ds_for .leaving rfl (di_range1 M.f_range (da_cons (de_callIo rfl 0 g_law_draw hr tk (da_cons (de_add rfl (dv 1) de_int) da_nil)) da_nil)) (dg_name 7 sc_law_items.nd) (db_cons (ds_par 8 9 rfl sc_law_items.nd (dl_cons (de_callIo rfl 0 g_law_draw hr tk (da_cons de_int da_nil)) (dl_cons (de_ix rfl hu (dv 3) (de_callIo rfl 0 g_law_draw hr tk (da_cons de_int da_nil))) dl_nil)))
      (db_cons (ds_set 6 sc_law_items.nd (de_add rfl (dv 6) de_int))
      (db_cons (ds_set 10 sc_law_items.nd (de_tup (da_cons de_str (da_cons (dv 9) da_nil))))
      (db_cons (ds_if (dt_chn (dw_and (dt_cmp (c_eq rfl hu) (dv 8) de_int) (dw_and1 (dt_cmp (c_notin rfl hu) (dv 9) (dv 5))))) (db_cons (ds_set 10 sc_law_items.nd (de_tup (da_cons de_str (da_cons (dv 9) da_nil))))
      (db_one (ds_dput hu 5 (dv 9) (dv 6)))) db_nil)
      (db_cons (ds_if (dt_chn (dw_and (dt_cmp c_gt (dv 8) de_int) (dw_and1 (dt_cmp (c_neD0 hu) (dv 5) de_dict0)))) (db_cons (ds_set 11 sc_law_items.nd (de_ix rfl hu (de_t (t_listD rfl) M.f_list (da_cons (dv 5) da_nil)) (de_callIo rfl 0 g_law_draw hr tk (da_cons (de_b (b_len rfl) M.f_len (da_cons (dv 5) da_nil)) da_nil))))
      (db_cons (ds_set 12 sc_law_items.nd (de_add rfl de_int (de_callIo rfl 0 g_law_draw hr tk (da_cons (de_ix rfl hu (de_lst (da_cons de_int (da_cons de_int (da_cons (de_ix rfl hu (de_lst (da_cons de_int (da_cons (de_sub (de_pow de_int de_int) de_int) da_nil))) (de_t (t_int) M.f_int (da_cons (de_cmp (c_eq rfl hu) (dv 2) de_int) da_nil))) da_nil)))) (de_callIo rfl 0 g_law_draw hr tk (da_cons de_int da_nil))) da_nil))))
      (db_cons (ds_set 13 sc_law_items.nd (de_add rfl (dv 6) (de_mul (dv 12) (de_add rfl (de_sub (dv 6) (de_ix rfl hu (dv 5) (dv 11))) de_int))))
      (db_one (ds_if (dt_chn (dw_or (dt_cmp (c_eq rfl hu) (dv 2) de_int) (dw_or1 (dt_cmp c_le (dv 13) (dv 2))))) (db_one (ds_par 10 6 rfl sc_law_items.nd (dl_cons (de_tup (da_cons de_str (da_cons (dv 11) (da_cons (dv 12) da_nil)))) (dl_cons (dv 13) dl_nil)))) db_nil))))) db_nil)
      (db_one (ds_expr (de_append rfl 4 (dv 10))))))))))
      (db_one (ds_ret (dv 4))))))⟩
theorem d_law_menu_line {P : Program} {w : World} {K : Fg} {mg : Str → Option Value} {base : Heap} {f : Addr} (M : Ms K mg) (g_law_draw : Gd P w ⟨K, OpS K, He.ga K⟩ mg base 1 "_law_draw" fs_law_drawS ["_law_source_here", "_law_bound"] []) (cdv : Value) (A : Around) (outer : List Env) (s : Shared) (H : Hp) (E : XK)
    (hr : Room 1 (A.deeper (PyProof.Rows.envOfC "_law_menu_line" (defScope s_law_menu_line) s.heap.objs.size f cdv))) : ∃ t, PSs (cxOf (L2N.CX P w) P w K mg base N_law_menu_line "_law_menu_line" (defScope s_law_menu_line) f cdv A outer s H E) (defBody s_law_menu_line) t ∧ SimS ⟨K, OpS K, He.ga K⟩ (fun c d _ H => E c d H) t w_law_menu_line := by
  have hu := hu65 hr
  have tk : L2N.Takes (cxOf (L2N.CX P w) P w K mg base N_law_menu_line "_law_menu_line" (defScope s_law_menu_line) f cdv A outer s H E) (fun c d _ H => E c d H) := L2N.takes_of rfl rfl rfl rfl
  suffices h : ∃ t, DB (cxOf (L2N.CX P w) P w K mg base N_law_menu_line "_law_menu_line" (defScope s_law_menu_line) f cdv A outer s H E) ⟨K, OpS K, He.ga K⟩ (fun c d _ H => E c d H) (defBody s_law_menu_line) t w_law_menu_line from let ⟨t, h⟩ := h; ⟨t, h.pe, h.sim⟩
  exact ⟨_, (db_cons (ds_set 1 sc_law_menu_line.nd (de_lst (da_cons de_str (da_cons de_str (da_cons de_str (da_cons de_str (da_cons de_str (da_cons de_str (da_cons de_str (da_cons de_str (da_cons de_str (da_cons de_str (da_cons de_str (da_cons de_str (da_cons de_str (da_cons de_str (da_cons de_str (da_cons de_str (da_cons de_str da_nil)))))))))))))))))))
      (db_cons (ds_set 1 sc_law_menu_line.nd (de_add rfl (dv 1) (de_lst (da_cons de_str (da_cons de_str (da_cons de_str (da_cons de_str (da_cons de_str (da_cons de_str (da_cons de_str (da_cons de_str (da_cons de_str (da_cons de_str da_nil)))))))))))))
      (db_one (ds_ret (de_join rfl de_str (de_lc (own := [("_law_turn", 2)]) rfl sc_law_menu_line.nd (di_range1 M.f_range (da_cons (de_add rfl de_int (de_callIo rfl 0 g_law_draw hr tk (da_cons de_int da_nil))) da_nil)) (blkOk_by (N := N_law_menu_line) (sc := defScope s_law_menu_line) (by decide +kernel)) (by decide) (fun _ _ _ _ _ => (dgw_name 2 sc_law_menu_line.nd)) (fun _ _ _ _ _ => dts_nil) (fun _ _ _ _ _ => (de_ix rfl hu (dv 1) (de_callIo rfl 0 g_law_draw hr takes0N (da_cons de_int da_nil))))))))))⟩
theorem d_law_notation {P : Program} {w : World} {K : Fg} {mg : Str → Option Value} {base : Heap} {f : Addr} (M : Ms K mg)  (cdv : Value) (A : Around) (outer : List Env) (s : Shared) (H : Hp) (E : XK)
    (hr : Room 0 (A.deeper (PyProof.Rows.envOfC "_law_notation" (defScope s_law_notation) s.heap.objs.size f cdv))) : ∃ t, PSs (cxOf (L2N.CX P w) P w K mg base N_law_notation "_law_notation" (defScope s_law_notation) f cdv A outer s H E) (defBody s_law_notation) t ∧ SimS ⟨K, OpS K, He.ga K⟩ (fun c d _ H => E c d H) t w_law_notation := by
  have hu := hu65 hr
  have tk : L2N.Takes (cxOf (L2N.CX P w) P w K mg base N_law_notation "_law_notation" (defScope s_law_notation) f cdv A outer s H E) (fun c d _ H => E c d H) := L2N.takes_of rfl rfl rfl rfl
  suffices h : ∃ t, DB (cxOf (L2N.CX P w) P w K mg base N_law_notation "_law_notation" (defScope s_law_notation) f cdv A outer s H E) ⟨K, OpS K, He.ga K⟩ (fun c d _ H => E c d H) (defBody s_law_notation) t w_law_notation from let ⟨t, h⟩ := h; ⟨t, h.pe, h.sim⟩
  exact ⟨_, (db_cons (ds_set 1 sc_law_notation.nd (de_lst da_nil))
      (db_cons (ds_for .leaving rfl (di_list rfl (dv 0)) (dg_name 2 sc_law_notation.nd) (db_cons (ds_set 3 sc_law_notation.nd (de_if (dt_cmp (c_eq rfl hu) (de_ix rfl hu (dv 2) de_int) de_str) de_str (de_if (dt_cmp (c_eq rfl hu) (de_ix rfl hu (dv 2) de_int) de_str) (de_add rfl de_str (de_t (t_str) M.f_str (da_cons (de_ix rfl hu (dv 2) de_int) da_nil))) de_str)))
      (db_one (ds_expr (de_append rfl 1 (de_add rfl (de_ix rfl hu (dv 2) de_int) (dv 3)))))))
      (db_one (ds_ret (de_join rfl de_str (dv 1))))))⟩
theorem d_law_integer {P : Program} {w : World} {K : Fg} {mg : Str → Option Value} {base : Heap} {f : Addr} (M : Ms K mg)  (cdv : Value) (A : Around) (outer : List Env) (s : Shared) (H : Hp) (E : XK)
    (hr : Room 0 (A.deeper (PyProof.Rows.envOfC "_law_integer" (defScope s_law_integer) s.heap.objs.size f cdv))) : ∃ t, PSs (cxOf (L2N.CX P w) P w K mg base N_law_integer "_law_integer" (defScope s_law_integer) f cdv A outer s H E) (defBody s_law_integer) t ∧ SimS ⟨K, OpS K, He.ga K⟩ (fun c d _ H => E c d H) t w_law_integer := by
  have hu := hu65 hr
  have tk : L2N.Takes (cxOf (L2N.CX P w) P w K mg base N_law_integer "_law_integer" (defScope s_law_integer) f cdv A outer s H E) (fun c d _ H => E c d H) := L2N.takes_of rfl rfl rfl rfl
  suffices h : ∃ t, DB (cxOf (L2N.CX P w) P w K mg base N_law_integer "_law_integer" (defScope s_law_integer) f cdv A outer s H E) ⟨K, OpS K, He.ga K⟩ (fun c d _ H => E c d H) (defBody s_law_integer) t w_law_integer from let ⟨t, h⟩ := h; ⟨t, h.pe, h.sim⟩
  exact ⟨_, (db_cons (ds_if (dt_chn (dw_or (dt_cmp (c_eq rfl hu) (dv 0) de_str) (dw_or1 (dt_cmp (c_ne rfl hu) (de_lc (own := [("_law_digit", 1)]) rfl sc_law_integer.nd (di_str (dv 0)) (blkOk_by (N := N_law_integer) (sc := defScope s_law_integer) (by decide +kernel)) (by decide) (fun _ _ _ _ _ => (dgw_name 1 sc_law_integer.nd)) (fun _ _ _ _ _ => (dts_one (dt_cmp (c_notin rfl hu) (dv 1) de_str))) (fun _ _ _ _ _ => (dv 1))) (de_lst da_nil))))) (db_one (ds_ret de_non)) db_nil)
      (db_one (ds_ret (de_if (dt_chn (dw_and (dt_cmp (c_eq rfl hu) (de_ix rfl hu (dv 0) de_int) de_str) (dw_and1 (dt_cmp (c_ne rfl hu) (dv 0) de_str)))) de_non (de_t t_intS M.f_int (da_cons (dv 0) da_nil))))))⟩
theorem d_law_is_name {P : Program} {w : World} {K : Fg} {mg : Str → Option Value} {base : Heap} {f : Addr} (M : Ms K mg)  (cdv : Value) (A : Around) (outer : List Env) (s : Shared) (H : Hp) (E : XK)
    (hr : Room 0 (A.deeper (PyProof.Rows.envOfC "_law_is_name" (defScope s_law_is_name) s.heap.objs.size f cdv))) : ∃ t, PSs (cxOf (L2N.CX P w) P w K mg base N_law_is_name "_law_is_name" (defScope s_law_is_name) f cdv A outer s H E) (defBody s_law_is_name) t ∧ SimS ⟨K, OpS K, He.ga K⟩ (fun c d _ H => E c d H) t w_law_is_name := by
  have hu := hu65 hr
  have tk : L2N.Takes (cxOf (L2N.CX P w) P w K mg base N_law_is_name "_law_is_name" (defScope s_law_is_name) f cdv A outer s H E) (fun c d _ H => E c d H) := L2N.takes_of rfl rfl rfl rfl
  suffices h : ∃ t, DB (cxOf (L2N.CX P w) P w K mg base N_law_is_name "_law_is_name" (defScope s_law_is_name) f cdv A outer s H E) ⟨K, OpS K, He.ga K⟩ (fun c d _ H => E c d H) (defBody s_law_is_name) t w_law_is_name from let ⟨t, h⟩ := h; ⟨t, h.pe, h.sim⟩
  exact ⟨_, (db_one (ds_ret (de_and (de_chain c_le c_le de_int (de_b (b_len rfl) M.f_len (da_cons (dv 0) da_nil)) de_int) (de_one (de_cmp (c_eq rfl hu) (de_lc (own := [("_law_letter", 1)]) rfl sc_law_is_name.nd (di_str (dv 0)) (blkOk_by (N := N_law_is_name) (sc := defScope s_law_is_name) (by decide +kernel)) (by decide) (fun _ _ _ _ _ => (dgw_name 1 sc_law_is_name.nd)) (fun _ _ _ _ _ => (dts_one (dt_cmp (c_notin rfl hu) (dv 1) de_str))) (fun _ _ _ _ _ => (dv 1))) (de_lst da_nil))))))⟩
theorem d_law_item {P : Program} {w : World} {K : Fg} {mg : Str → Option Value} {base : Heap} {f : Addr} (M : Ms K mg) (g_law_integer : Gd P w ⟨K, OpS K, He.ga K⟩ mg base 1 "_law_integer" fs_law_integer ["_law_word"] []) (g_law_is_name : Gd P w ⟨K, OpS K, He.ga K⟩ mg base 1 "_law_is_name" fs_law_is_name ["_law_word"] []) (cdv : Value) (A : Around) (outer : List Env) (s : Shared) (H : Hp) (E : XK)
    (hr : Room 1 (A.deeper (PyProof.Rows.envOfC "_law_item" (defScope s_law_item) s.heap.objs.size f cdv))) : ∃ t, PSs (cxOf (L2N.CX P w) P w K mg base N_law_item "_law_item" (defScope s_law_item) f cdv A outer s H E) (defBody s_law_item) t ∧ SimS ⟨K, OpS K, He.ga K⟩ (fun c d _ H => E c d H) t w_law_item := by
  have hu := hu65 hr
  have tk : L2N.Takes (cxOf (L2N.CX P w) P w K mg base N_law_item "_law_item" (defScope s_law_item) f cdv A outer s H E) (fun c d _ H => E c d H) := L2N.takes_of rfl rfl rfl rfl
  suffices h : ∃ t, DB (cxOf (L2N.CX P w) P w K mg base N_law_item "_law_item" (defScope s_law_item) f cdv A outer s H E) ⟨K, OpS K, He.ga K⟩ (fun c d _ H => E c d H) (defBody s_law_item) t w_law_item from let ⟨t, h⟩ := h; ⟨t, h.pe, h.sim⟩
  exact ⟨_, (db_cons (ds_if (dt_val (de_call rfl g_law_is_name hr tk (da_cons (dv 0) da_nil))) (db_one (ds_ret (de_tup (da_cons de_str (da_cons (dv 0) da_nil))))) db_nil)
      (db_cons (ds_if (dt_chn (dw_and (dt_cmp (c_eq rfl hu) (de_slS (dv 0) (do_some (de_neg de_int)) do_none) de_str) (dw_and (dt_val (de_call rfl g_law_is_name hr tk (da_cons (de_slS (dv 0) do_none (do_some (de_neg de_int))) da_nil))) (dw_and1 (dt_cmp (c_notin rfl hu) (de_slS (dv 0) do_none (do_some (de_neg de_int))) (dv 1)))))) (db_one (ds_ret (de_tup (da_cons de_str (da_cons (de_slS (dv 0) do_none (do_some (de_neg de_int))) da_nil))))) db_nil)
      (db_cons (ds_set 2 sc_law_item.nd (de_split (dv 0) de_str))
      (db_cons (ds_if (dt_chn (dw_or (dt_cmp (c_ne rfl hu) (de_b (b_len rfl) M.f_len (da_cons (dv 2) da_nil)) de_int) (dw_or1 (dt_cmp (c_notin rfl hu) (de_ix rfl hu (dv 2) de_int) (dv 1))))) (db_one (ds_ret de_non)) db_nil)
      (db_cons (ds_set 3 sc_law_item.nd (de_call rfl g_law_integer hr tk (da_cons (de_ix rfl hu (dv 2) de_int) da_nil)))
      (db_one (ds_ret (de_if (dt_chn (dw_or (dt_cmp c_isN (dv 3) de_non) (dw_or1 (dt_cmp (c_eq rfl hu) (dv 3) de_int)))) de_non (de_tup (da_cons de_str (da_cons (de_ix rfl hu (dv 2) de_int) (da_cons (dv 3) da_nil))))))))))))⟩
theorem d_law_parse {P : Program} {w : World} {K : Fg} {mg : Str → Option Value} {base : Heap} {f : Addr} (M : Ms K mg) (g_law_item : Gd P w ⟨K, OpS K, He.ga K⟩ mg base 2 "_law_item" fs_law_item ["_law_word", "_law_marks"] []) (cdv : Value) (A : Around) (outer : List Env) (s : Shared) (H : Hp) (E : XK)
    (hr : Room 2 (A.deeper (PyProof.Rows.envOfC "_law_parse" (defScope s_law_parse) s.heap.objs.size f cdv))) : ∃ t, PSs (cxOf (L2N.CX P w) P w K mg base N_law_parse "_law_parse" (defScope s_law_parse) f cdv A outer s H E) (defBody s_law_parse) t ∧ SimS ⟨K, OpS K, He.ga K⟩ (fun c d _ H => E c d H) t w_law_parse := by
  have hu := hu65 hr
  have tk : L2N.Takes (cxOf (L2N.CX P w) P w K mg base N_law_parse "_law_parse" (defScope s_law_parse) f cdv A outer s H E) (fun c d _ H => E c d H) := L2N.takes_of rfl rfl rfl rfl
  suffices h : ∃ t, DB (cxOf (L2N.CX P w) P w K mg base N_law_parse "_law_parse" (defScope s_law_parse) f cdv A outer s H E) ⟨K, OpS K, He.ga K⟩ (fun c d _ H => E c d H) (defBody s_law_parse) t w_law_parse from let ⟨t, h⟩ := h; ⟨t, h.pe, h.sim⟩
  exact ⟨_, (db_cons (ds_par 1 2 rfl sc_law_parse.nd (dl_cons (de_lst da_nil) (dl_cons (de_lst da_nil) dl_nil)))
      (db_cons (ds_for .leaving rfl (di_enum rfl M.f_enumerate (da_cons (de_if (dt_cmp (c_ne rfl hu) (dv 0) de_str) (de_split (dv 0) de_str) (de_lst da_nil)) da_nil)) (dg_tup (n := 2) rfl rfl (dgs_cons (dg_name 3 sc_law_parse.nd) (dgs_cons (dg_name 4 sc_law_parse.nd) dgs_nil))) (db_cons (ds_set 5 sc_law_parse.nd (de_callB2 rfl g_law_item hr tk (da_cons (dv 4) (da_cons (dv 2) da_nil))))
      (db_cons (ds_if (dt_cmp c_isN (dv 5) de_non) (db_one (ds_ret (dv 3))) db_nil)
      (db_cons (ds_if (dt_cmp (c_eq rfl hu) (de_ix rfl hu (dv 5) de_int) de_str) (db_one (ds_expr (de_append rfl 2 (de_ix rfl hu (dv 5) de_int)))) db_nil)
      (db_one (ds_expr (de_append rfl 1 (dv 5))))))))
      (db_one (ds_ret (dv 1)))))⟩
theorem d_law_same {P : Program} {w : World} {K : Fg} {mg : Str → Option Value} {base : Heap} {f : Addr} (M : Ms K mg) {fsr : FS} {k0 : Nat} (g_law_same : Gd P w ⟨K, OpS K, He.ga K⟩ mg base k0 "_law_same" fsr ["_law_found_here", "_law_due"] []) (cdv : Value) (A : Around) (outer : List Env) (s : Shared) (H : Hp) (E : XK)
    (hr : Room k0 (A.deeper (PyProof.Rows.envOfC "_law_same" (defScope s_law_same) s.heap.objs.size f cdv))) : ∃ t, PSs (cxOf (L2N.CX P w) P w K mg base N_law_same "_law_same" (defScope s_law_same) f cdv A outer s H E) (defBody s_law_same) t ∧ SimS ⟨K, OpS K, He.ga K⟩ (fun c d _ H => E c d H) t (w_law_same fsr) := by
  have hu := hu65 hr
  have tk : L2N.Takes (cxOf (L2N.CX P w) P w K mg base N_law_same "_law_same" (defScope s_law_same) f cdv A outer s H E) (fun c d _ H => E c d H) := L2N.takes_of rfl rfl rfl rfl
  suffices h : ∃ t, DB (cxOf (L2N.CX P w) P w K mg base N_law_same "_law_same" (defScope s_law_same) f cdv A outer s H E) ⟨K, OpS K, He.ga K⟩ (fun c d _ H => E c d H) (defBody s_law_same) t (w_law_same fsr) from let ⟨t, h⟩ := h; ⟨t, h.pe, h.sim⟩
  exact ⟨_, (db_cons (ds_if (dt_chn (dw_or (dt_val (de_isi rfl kit_list M.f_isinstance M.f_list (dv 1))) (dw_or1 (dt_val (de_isi rfl kit_tuple M.f_isinstance M.f_tuple (dv 1)))))) (db_cons (ds_if (dt_chn (dw_or (dt_cmp (c_ne rfl hu) (de_isi rfl kit_list M.f_isinstance M.f_list (dv 0)) (de_isi rfl kit_list M.f_isinstance M.f_list (dv 1))) (dw_or1 (dt_cmp (c_ne rfl hu) (de_isi rfl kit_tuple M.f_isinstance M.f_tuple (dv 0)) (de_isi rfl kit_tuple M.f_isinstance M.f_tuple (dv 1)))))) (db_one (ds_ret de_bl)) db_nil)
      (db_one (ds_ret (de_and (de_cmp (c_eq rfl hu) (de_b (b_len rfl) M.f_len (da_cons (dv 0) da_nil)) (de_b (b_len rfl) M.f_len (da_cons (dv 1) da_nil))) (de_one (de_b (b_all rfl rfl) M.f_all (da_cons (de_lc (own := [("_law_one", 2), ("_law_two", 3)]) rfl sc_law_same.nd (di_zipA rfl M.f_zip (da_cons (dv 0) (da_cons (dv 1) da_nil))) (blkOk_by (N := N_law_same) (sc := defScope s_law_same) (by decide +kernel)) (by decide) (fun _ _ _ _ _ => (dgw_tup (n := 2) rfl rfl (dgsw_cons (dgw_name 2 sc_law_same.nd) (dgsw_cons (dgw_name 3 sc_law_same.nd) dgsw_nil)))) (fun _ _ _ _ _ => dts_nil) (fun _ _ _ _ _ => (de_call rfl g_law_same hr takes0N (da_cons (dv 2) (da_cons (dv 3) da_nil))))) da_nil))))))) db_nil)
      (db_cons (ds_if (dt_chn (dw_or (dt_cmp c_isN (dv 1) de_non) (dw_or1 (dt_cmp c_isN (dv 0) de_non)))) (db_one (ds_ret (de_and (de_cmp c_isN (dv 1) de_non) (de_one (de_cmp c_isN (dv 0) de_non))))) db_nil)
      (db_cons (ds_if (dt_chn (dw_or (dt_cmp (c_ne rfl hu) (de_isi rfl kit_bool M.f_isinstance M.f_bool (dv 1)) (de_isi rfl kit_bool M.f_isinstance M.f_bool (dv 0))) (dw_or1 (dt_cmp (c_ne rfl hu) (de_isi rfl kit_str M.f_isinstance M.f_str (dv 1)) (de_isi rfl kit_str M.f_isinstance M.f_str (dv 0)))))) (db_one (ds_ret de_bl)) db_nil)
      (db_one (ds_ret (de_cmp (c_eq rfl hu) (dv 0) (dv 1)))))))⟩
theorem d_law_source {P : Program} {w : World} {K : Fg} {mg : Str → Option Value} {base : Heap} {f : Addr} (M : Ms K mg)  (cdv : Value) (A : Around) (outer : List Env) (s : Shared) (H : Hp) (E : XK)
    (hr : Room 0 (A.deeper (PyProof.Rows.envOfC "_law_source" (defScope s_law_source) s.heap.objs.size f cdv))) : ∃ t, PSs (cxOf (L2N.CX P w) P w K mg base N_law_source "_law_source" (defScope s_law_source) f cdv A outer s H E) (defBody s_law_source) t ∧ SimS ⟨K, OpS K, He.ga K⟩ (fun c d _ H => E c d H) t w_law_sourceS := by
  have hu := hu65 hr
  have tk : L2N.Takes (cxOf (L2N.CX P w) P w K mg base N_law_source "_law_source" (defScope s_law_source) f cdv A outer s H E) (fun c d _ H => E c d H) := L2N.takes_of rfl rfl rfl rfl
  suffices h : ∃ t, DB (cxOf (L2N.CX P w) P w K mg base N_law_source "_law_source" (defScope s_law_source) f cdv A outer s H E) ⟨K, OpS K, He.ga K⟩ (fun c d _ H => E c d H) (defBody s_law_source) t w_law_sourceS from let ⟨t, h⟩ := h; ⟨t, h.pe, h.sim⟩
  exact ⟨_, (db_cons (ds_set 2 sc_law_source.nd (de_if (dt_cmp c_lt (dv 1) (de_lenS rfl rfl 0 M.f_len)) (de_ixS rfl rfl hu 0 (dv 1)) de_int))
      (db_one (ds_ret (de_lst (da_cons (de_b (b_max rfl) M.f_max (da_cons de_int (da_cons (de_sub (de_b (b_abs) M.f_abs (da_cons (dv 2) da_nil)) (de_pow de_int de_int)) da_nil))) (da_cons (de_mod (de_add rfl (de_add rfl (de_mulS (dv 2) de_int) (de_mul de_int (dv 1))) de_int) (de_add rfl (de_pow de_int de_int) de_int)) (da_cons de_int da_nil)))))))⟩
theorem d_law {P : Program} {w : World} {K : Fg} {mg : Str → Option Value} {base : Heap} {f : Addr} (M : Ms K mg) (g_law_change : Gd P w ⟨K, OpS K, He.ga K⟩ mg base 5 "_law_change" fs_law_change ["_law_source_here", "_law_line"] []) (g_law_found : Gd P w ⟨K, OpS K, He.ga K⟩ mg base 5 "_law_found" fs_law_found ["_law_line"] []) (g_law_has_long_number : Gd P w ⟨K, OpS K, He.ga K⟩ mg base 5 "_law_has_long_number" fs_law_has_long_number ["_law_line"] []) (g_law_items : Gd P w ⟨K, OpS K, He.ga K⟩ mg base 5 "_law_items" fs_law_itemsS ["_law_source_here", "_law_most", "_law_cap"] []) (g_law_menu_line : Gd P w ⟨K, OpS K, He.ga K⟩ mg base 5 "_law_menu_line" fs_law_menu_line ["_law_source_here"] []) (g_law_notation : Gd P w ⟨K, OpS K, He.ga K⟩ mg base 5 "_law_notation" fs_law_notation ["_law_items_here"] []) (g_law_parse : Gd P w ⟨K, OpS K, He.ga K⟩ mg base 5 "_law_parse" fs_law_parse ["_law_line"] []) (g_law_same : Gd P w ⟨K, OpS K, He.ga K⟩ mg base 5 "_law_same" fs_law_same ["_law_found_here", "_law_due"] []) (g_law_source : Gd P w ⟨K, OpS K, He.ga K⟩ mg base 5 "_law_source" fs_law_sourceS ["_law_script", "_law_k"] []) (i_NotReconstructible : MkI P w K mg base "NotReconstructible") (i_ParseError : MkI P w K mg base "ParseError") (hnd : base.NoDigits) (cdv : Value) (s : Shared) (H : Hp) (E : XK)
    (hr : Room 5 (callerA.deeper (PyProof.Rows.envOfC "law" (defScope s_law) s.heap.objs.size f cdv))) : ∃ t, PSs (cxOf (L2N.CX P w) P w K mg base N_law "law" (defScope s_law) f cdv callerA [] s H E) (defBody s_law) t ∧ SimS ⟨K, OpS K, He.ga K⟩ (fun c d _ H => E c d H) t w_law := by
  have hu := hu65 hr
  have hgd : (cxOf (L2N.CX P w) P w K mg base N_law "law" (defScope s_law) f cdv callerA [] s H E).A.guards = some [] := rfl
  have tk : L2N.Takes (cxOf (L2N.CX P w) P w K mg base N_law "law" (defScope s_law) f cdv callerA [] s H E) (fun c d _ H => E c d H) := L2N.takes_of rfl rfl rfl rfl
  suffices h : ∃ t, DB (cxOf (L2N.CX P w) P w K mg base N_law "law" (defScope s_law) f cdv callerA [] s H E) ⟨K, OpS K, He.ga K⟩ (fun c d _ H => E c d H) (defBody s_law) t w_law from let ⟨t, h⟩ := h; ⟨t, h.pe, h.sim⟩
  exact ⟨_, (db_cons (ds_for .leaving rfl (di_list rfl (de_lst (da_cons de_non (da_cons de_int (da_cons de_bl (da_cons (de_lst da_nil) (da_cons (de_lst (da_cons de_str da_nil)) (da_cons (de_lst (da_cons (de_tup (da_cons de_str (da_cons de_str da_nil))) da_nil)) (da_cons de_dict0 (da_cons (de_tup (da_cons de_str da_nil)) da_nil)))))))))) (dg_name 1 sc_law.nd) (db_one (ds_if (dt_not (dt_val (de_fz (de_call rfl g_law_same hr tk (da_cons (de_call rfl g_law_found hr tk (da_cons (dv 1) da_nil)) (da_cons de_non da_nil)))))) (db_one (ds_ret de_bl)) db_nil)))
      (db_exs (y := "_law_error") (i := 2) (ev := 9) (ds := [.int 4, .none, .int 4, .none]) rfl rfl sc_law.nd (xa_cons rfl rfl (hr.mono (by decide)) i_ParseError (xa_cons0 rfl rfl (hr.mono (by decide)) i_ParseError (xa_cons rfl rfl (hr.mono (by decide)) i_NotReconstructible (xa_cons0 rfl rfl (hr.mono (by decide)) i_NotReconstructible xa_nil)))) (fun _ => (.cons (.int _) (.cons (.non) (.cons (.int _) (.cons (.non) .nil))))) (c_ne rfl hu) (de_lst (da_cons de_int (da_cons de_non (da_cons de_int (da_cons de_non da_nil))))) (db_one (ds_ret de_bl)) (db_cons (ds_for .leaving rfl (di_range1 M.f_range (da_cons (de_b (b_max rfl) M.f_max (da_cons de_int (da_cons (de_b (b_min rfl) M.f_min (da_cons de_int (da_cons (de_lenS rfl rfl 0 M.f_len) da_nil))) da_nil))) da_nil)) (dg_name 3 sc_law.nd) (db_cons (ds_set 4 sc_law.nd (de_callIo rfl 0 g_law_source hr tk (da_cons (dv 3) da_nil)))
      (db_one (ds_for .leaving rfl (di_range1 M.f_range (da_cons de_int da_nil)) (dg_name 5 sc_law.nd) (db_cons (ds_set 6 sc_law.nd (de_lst (da_cons (de_callIo rfl 4 g_law_change hr tk (da_cons (de_call rfl g_law_notation hr tk (da_cons (de_callIo rfl 4 g_law_items hr tk (da_cons de_int (da_cons de_int da_nil))) da_nil)) da_nil)) (da_cons (de_callIo rfl 4 g_law_menu_line hr tk da_nil) da_nil))))
      (db_cons (ds_expr (de_append rfl 6 (de_callIo rfl 4 g_law_change hr tk (da_cons (de_ix rfl hu (dv 6) de_int) da_nil))))
      (db_cons (ds_expr (de_append rfl 6 (de_callIo rfl 4 g_law_change hr tk (da_cons (de_ix rfl hu (dv 6) de_int) da_nil))))
      (db_one (ds_for .leaving rfl (di_list rfl (dv 6)) (dg_name 7 sc_law.nd) (db_cons (ds_set 8 sc_law.nd (de_and (de_cmp c_le (de_b (b_len rfl) M.f_len (da_cons (dv 7) da_nil)) de_int) (de_one (de_not (de_call rfl g_law_has_long_number hr tk (da_cons (dv 7) da_nil))))))
      (db_one (ds_if (dt_chn (dw_and (dt_val (dv 8)) (dw_and1 (dt_not (dt_val (de_fz (de_call rfl g_law_same hr tk (da_cons (de_call rfl g_law_found hr tk (da_cons (dv 7) da_nil)) (da_cons (de_call rfl g_law_parse hr tk (da_cons (dv 7) da_nil)) da_nil))))))))) (db_one (ds_ret de_bl)) db_nil))))))))))))
      (db_one (ds_ret de_bl))) (di_list rfl (dv 2)) (blkOk_by (N := N_law) (sc := defScope s_law) (by decide +kernel)) (fun _ _ _ _ _ => (dgw_name 9 sc_law.nd)) (fun _ _ _ _ _ => (dv 9))))⟩
end K56

set_option Elab.async false
set_option linter.all false
set_option maxRecDepth 100000
set_option maxHeartbeats 400000
set_option maxHeartbeats 0
namespace K56
open PySem L2 VL SC
theorem l_law_draw : FnL fs_law_drawS 2 := by
  intro io ds Q X h
  repeat (first | (obtain ⟨rfl, h⟩ := h) | (obtain ⟨_, h⟩ := h))
  all_goals first | rfl | (rename_i h; (repeat (first | (obtain ⟨rfl, h⟩ := h) | (obtain ⟨_, h⟩ := h))); all_goals rfl)
theorem l_law_change : FnL fs_law_change 2 := by
  intro io ds Q X h
  repeat (first | (obtain ⟨rfl, h⟩ := h) | (obtain ⟨_, h⟩ := h))
  all_goals first | rfl | (rename_i h; (repeat (first | (obtain ⟨rfl, h⟩ := h) | (obtain ⟨_, h⟩ := h))); all_goals rfl)
theorem l_law_kind : FnL fs_law_kindC 1 := by
  intro io ds Q X h
  obtain ⟨x, s, rfl, hk, _, rfl, _⟩ := h
  rcases hk with rfl | ⟨v, rfl⟩ <;> rfl
theorem l_is_name : FnL fs_is_nameX 1 := by
  intro io ds Q X h
  repeat (first | (obtain ⟨rfl, h⟩ := h) | (obtain ⟨_, h⟩ := h))
  all_goals first | rfl | (rename_i h; (repeat (first | (obtain ⟨rfl, h⟩ := h) | (obtain ⟨_, h⟩ := h))); all_goals rfl)
theorem l_parse_integer : FnL fs_parse_integerX 1 := by
  intro io ds Q X h
  repeat (first | (obtain ⟨rfl, h⟩ := h) | (obtain ⟨_, h⟩ := h))
  all_goals first | rfl | (rename_i h; (repeat (first | (obtain ⟨rfl, h⟩ := h) | (obtain ⟨_, h⟩ := h))); all_goals rfl)
theorem l_parse_item : FnL fs_parse_itemX 2 := by
  intro io ds Q X h
  repeat (first | (obtain ⟨rfl, h⟩ := h) | (obtain ⟨_, h⟩ := h))
  all_goals first | rfl | (rename_i h; (repeat (first | (obtain ⟨rfl, h⟩ := h) | (obtain ⟨_, h⟩ := h))); all_goals rfl)
theorem l_parse_score : FnL fs_parse_scoreY 1 := by
  intro io ds Q X h
  repeat (first | (obtain ⟨rfl, h⟩ := h) | (obtain ⟨_, h⟩ := h))
  all_goals first | rfl | (rename_i h; (repeat (first | (obtain ⟨rfl, h⟩ := h) | (obtain ⟨_, h⟩ := h))); all_goals rfl)
theorem l_law_found : FnL fs_law_found 1 := by
  intro io ds Q X h
  repeat (first | (obtain ⟨rfl, h⟩ := h) | (obtain ⟨_, h⟩ := h))
  all_goals first | rfl | (rename_i h; (repeat (first | (obtain ⟨rfl, h⟩ := h) | (obtain ⟨_, h⟩ := h))); all_goals rfl)
theorem l_law_has_long_number : FnL fs_law_has_long_number 1 := by
  intro io ds Q X h
  repeat (first | (obtain ⟨rfl, h⟩ := h) | (obtain ⟨_, h⟩ := h))
  all_goals first | rfl | (rename_i h; (repeat (first | (obtain ⟨rfl, h⟩ := h) | (obtain ⟨_, h⟩ := h))); all_goals rfl)
theorem l_law_items : FnL fs_law_itemsS 3 := by
  intro io ds Q X h
  repeat (first | (obtain ⟨rfl, h⟩ := h) | (obtain ⟨_, h⟩ := h))
  all_goals first | rfl | (rename_i h; (repeat (first | (obtain ⟨rfl, h⟩ := h) | (obtain ⟨_, h⟩ := h))); all_goals rfl)
theorem l_law_menu_line : FnL fs_law_menu_line 1 := by
  intro io ds Q X h
  repeat (first | (obtain ⟨rfl, h⟩ := h) | (obtain ⟨_, h⟩ := h))
  all_goals first | rfl | (rename_i h; (repeat (first | (obtain ⟨rfl, h⟩ := h) | (obtain ⟨_, h⟩ := h))); all_goals rfl)
theorem l_law_notation : FnL fs_law_notation 1 := by
  intro io ds Q X h
  repeat (first | (obtain ⟨rfl, h⟩ := h) | (obtain ⟨_, h⟩ := h))
  all_goals first | rfl | (rename_i h; (repeat (first | (obtain ⟨rfl, h⟩ := h) | (obtain ⟨_, h⟩ := h))); all_goals rfl)
theorem l_law_integer : FnL fs_law_integer 1 := by
  intro io ds Q X h
  repeat (first | (obtain ⟨rfl, h⟩ := h) | (obtain ⟨_, h⟩ := h))
  all_goals first | rfl | (rename_i h; (repeat (first | (obtain ⟨rfl, h⟩ := h) | (obtain ⟨_, h⟩ := h))); all_goals rfl)
theorem l_law_is_name : FnL fs_law_is_name 1 := by
  intro io ds Q X h
  repeat (first | (obtain ⟨rfl, h⟩ := h) | (obtain ⟨_, h⟩ := h))
  all_goals first | rfl | (rename_i h; (repeat (first | (obtain ⟨rfl, h⟩ := h) | (obtain ⟨_, h⟩ := h))); all_goals rfl)
theorem l_law_item : FnL fs_law_item 2 := by
  intro io ds Q X h
  repeat (first | (obtain ⟨rfl, h⟩ := h) | (obtain ⟨_, h⟩ := h))
  all_goals first | rfl | (rename_i h; (repeat (first | (obtain ⟨rfl, h⟩ := h) | (obtain ⟨_, h⟩ := h))); all_goals rfl)
theorem l_law_parse : FnL fs_law_parse 1 := by
  intro io ds Q X h
  repeat (first | (obtain ⟨rfl, h⟩ := h) | (obtain ⟨_, h⟩ := h))
  all_goals first | rfl | (rename_i h; (repeat (first | (obtain ⟨rfl, h⟩ := h) | (obtain ⟨_, h⟩ := h))); all_goals rfl)
theorem l_law_source : FnL fs_law_sourceS 2 := by
  intro io ds Q X h
  repeat (first | (obtain ⟨rfl, h⟩ := h) | (obtain ⟨_, h⟩ := h))
  all_goals first | rfl | (rename_i h; (repeat (first | (obtain ⟨rfl, h⟩ := h) | (obtain ⟨_, h⟩ := h))); all_goals rfl)
theorem sc_NotReconstructible_i : FnScope ["self", "index"] ["self", "index"] (defScope s_NotReconstructible_i) := ⟨rfl, rfl, rfl, by decide +kernel, rfl, by decide +kernel, by decide +kernel⟩
theorem sc_ParseError_i : FnScope ["self", "index"] ["self", "index"] (defScope s_ParseError_i) := ⟨rfl, rfl, rfl, by decide +kernel, rfl, by decide +kernel, by decide +kernel⟩
theorem facts {P : Program} {w : World} {K : Fg} {h : Heap} {mg : Str → Option Value} {f : Addr} (X : K.In h) (G : h.Ns mainGlobals mg) (hfa : mg ("law" : Str) = some (.ref f)) (cx : xb K = true) (c : He.SaysD fa fn K) :
    ∃ fd : FuncData, (∀ (s : Shared) (u : Value), BindsTo s fd ⟨[u], []⟩ [("_law_script", u)]) ∧ ∀ base : Heap, K.In base → base.Ns mainGlobals mg → base.NoDigits → LawRuns P w K mg base 6 f fd "_law_script" := by
  obtain ⟨fd_law_draw, F_law_draw⟩ := c.def_ 0 (d := D_law_draw) rfl
  obtain ⟨fd_law_change, F_law_change⟩ := c.def_ 1 (d := D_law_change) rfl
  obtain ⟨fd_law_kind, F_law_kind⟩ := c.def_ 2 (d := D_law_kind) rfl
  obtain ⟨fd_is_name, F_is_name⟩ := c.def_ 3 (d := D_is_name) rfl
  obtain ⟨fd_parse_integer, F_parse_integer⟩ := c.def_ 4 (d := D_parse_integer) rfl
  obtain ⟨fd_parse_item, F_parse_item⟩ := c.def_ 5 (d := D_parse_item) rfl
  obtain ⟨fd_parse_score, F_parse_score⟩ := c.def_ 6 (d := D_parse_score) rfl
  obtain ⟨fd_law_found, F_law_found⟩ := c.def_ 7 (d := D_law_found) rfl
  obtain ⟨fd_law_has_long_number, F_law_has_long_number⟩ := c.def_ 8 (d := D_law_has_long_number) rfl
  obtain ⟨fd_law_items, F_law_items⟩ := c.def_ 9 (d := D_law_items) rfl
  obtain ⟨fd_law_menu_line, F_law_menu_line⟩ := c.def_ 10 (d := D_law_menu_line) rfl
  obtain ⟨fd_law_notation, F_law_notation⟩ := c.def_ 11 (d := D_law_notation) rfl
  obtain ⟨fd_law_integer, F_law_integer⟩ := c.def_ 12 (d := D_law_integer) rfl
  obtain ⟨fd_law_is_name, F_law_is_name⟩ := c.def_ 13 (d := D_law_is_name) rfl
  obtain ⟨fd_law_item, F_law_item⟩ := c.def_ 14 (d := D_law_item) rfl
  obtain ⟨fd_law_parse, F_law_parse⟩ := c.def_ 15 (d := D_law_parse) rfl
  obtain ⟨fd_law_same, F_law_same⟩ := c.def_ 16 (d := D_law_same) rfl
  obtain ⟨fd_law_source, F_law_source⟩ := c.def_ 17 (d := D_law_source) rfl
  obtain ⟨fd_law, F_law⟩ := c.def_ 18 (d := D_law) rfl
  obtain ⟨fd_NotReconstructible_i, F_NotReconstructible_i⟩ := c.def_ 19 (d := D_NotReconstructible_i) rfl
  obtain ⟨fd_ParseError_i, F_ParseError_i⟩ := c.def_ 20 (d := D_ParseError_i) rfl
  have cx2 := He.ba cx
  have i_NotReconstructible0 : OiF K "NotReconstructible" := oiB_ok cx2.1
  replace cx := cx2.2
  have cx2 := He.ba cx
  have i_ParseError0 : OiF K "ParseError" := oiB_ok cx2.1
  replace cx := cx2.2
  have oi0 : ∀ nm ∈ (["ParseError"] : List Str), OiF K nm := by
    intro nm hn
    simp only [List.mem_cons, List.not_mem_nil, or_false] at hn
    rcases hn with rfl
    · exact i_ParseError0
  have M : Ms K mg := ⟨He.free_ok X G (c.fact 19 (f := .free "ValueError") rfl),
    He.free_ok X G (c.fact 20 (f := .free "abs") rfl),
    He.free_ok X G (c.fact 21 (f := .free "all") rfl),
    He.free_ok X G (c.fact 22 (f := .free "bool") rfl),
    He.free_ok X G (c.fact 23 (f := .free "enumerate") rfl),
    He.free_ok X G (c.fact 24 (f := .free "int") rfl),
    He.free_ok X G (c.fact 25 (f := .free "isinstance") rfl),
    He.free_ok X G (c.fact 26 (f := .free "len") rfl),
    He.free_ok X G (c.fact 27 (f := .free "list") rfl),
    He.free_ok X G (c.fact 28 (f := .free "max") rfl),
    He.free_ok X G (c.fact 29 (f := .free "min") rfl),
    He.free_ok X G (c.fact 30 (f := .free "range") rfl),
    He.free_ok X G (c.fact 31 (f := .free "str") rfl),
    He.free_ok X G (c.fact 32 (f := .free "tuple") rfl),
    He.free_ok X G (c.fact 33 (f := .free "zip") rfl),
    He.str_ok X G (c.fact 34 (f := .str "BAR" "bar") rfl),
    He.str_ok X G (c.fact 35 (f := .str "DIGITS" "0123456789") rfl),
    He.str_ok X G (c.fact 36 (f := .str "LETTERS" "abcdefghijklmnopqrstuvwxyz") rfl),
    He.str_ok X G (c.fact 37 (f := .str "MARK" "mark") rfl),
    He.int_ok X G (c.fact 38 (f := .int "MAX_NAME_LENGTH" 8) rfl),
    He.str_ok X G (c.fact 39 (f := .str "REPEAT" "repeat") rfl),
    He.glo_ok X G (c.fact 40 (f := .glo "EndReached") rfl),
    He.glo_ok X G (c.fact 41 (f := .glo "InvalidBar") rfl),
    He.glo_ok X G (c.fact 42 (f := .glo "InvalidCommand") rfl),
    He.glo_ok X G (c.fact 43 (f := .glo "InvalidCount") rfl),
    He.glo_ok X G (c.fact 44 (f := .glo "InvalidPlayback") rfl),
    He.glo_ok X G (c.fact 45 (f := .glo "InvalidPosition") rfl),
    He.glo_ok X G (c.fact 46 (f := .glo "InvalidRepeat") rfl),
    He.glo_ok X G (c.fact 47 (f := .glo "InvalidScore") rfl),
    He.glo_ok X G (c.fact 48 (f := .glo "InvalidState") rfl),
    He.glo_ok X G (c.fact 49 (f := .glo "InvalidTime") rfl),
    He.glo_ok X G (c.fact 50 (f := .glo "InvalidWeights") rfl),
    He.glo_ok X G (c.fact 51 (f := .glo "LimitExceeded") rfl),
    He.glo_ok X G (c.fact 52 (f := .glo "NotReconstructible") rfl),
    He.glo_ok X G (c.fact 53 (f := .glo "NotSimple") rfl),
    He.glo_ok X G (c.fact 54 (f := .glo "ParseError") rfl),
    He.glo_ok X G (c.fact 55 (f := .glo "ScoreError") rfl),
    He.glo_ok X G (c.fact 56 (f := .glo "StartReached") rfl),
    He.glo_ok X G (c.fact 57 (f := .glo "UnknownMark") rfl),
    He.glo_ok X G (c.fact 58 (f := .glo "UnknownName") rfl),
    oi0,
    i_NotReconstructible0,
    i_ParseError0,
    exB_ok cx⟩
  have el := hfa.symm.trans (He.glo_ok X G (c.fact 18 (f := .glo "law") rfl))
  cases el
  refine ⟨fd_law, fun s u => FunD.bindsA (ps := ["_law_script"]) F_law (fun _ _ _ _ _ _ us hl => match us, hl with | [_], _ => rfl) s [u] rfl, fun base _ _ hnd => ?_⟩
  have i_NotReconstructible : MkI P w K mg base "NotReconstructible" := by
    obtain ⟨ds, v, b⟩ := FunD.binds1 (ps := ["self", "index"]) F_NotReconstructible_i 2 1 (List.cons_ne_nil _ _) rfl fun _ _ _ _ _ _ _ us its hl hl2 => match us, hl, its, hl2 with | [_, _], _, [_], _ => ⟨_, rfl, rfl⟩
    obtain ⟨ds2, v2, b2⟩ := FunD.binds1 (ps := ["self", "index"]) F_NotReconstructible_i 1 0 (List.cons_ne_nil _ _) rfl fun _ _ _ _ _ _ _ us its hl hl2 => match us, hl, its, hl2 with | [_], _, [_], _ => ⟨_, rfl, rfl⟩
    exact ⟨He.glo_ok X G (c.fact 52 (f := .glo "NotReconstructible") rfl), i_NotReconstructible0, fd_NotReconstructible_i, init_ok F_NotReconstructible_i rfl sc_NotReconstructible_i rfl rfl, ⟨ds, v, b⟩, ds2, v2, b2⟩
  have i_ParseError : MkI P w K mg base "ParseError" := by
    obtain ⟨ds, v, b⟩ := FunD.binds1 (ps := ["self", "index"]) F_ParseError_i 2 1 (List.cons_ne_nil _ _) rfl fun _ _ _ _ _ _ _ us its hl hl2 => match us, hl, its, hl2 with | [_, _], _, [_], _ => ⟨_, rfl, rfl⟩
    obtain ⟨ds2, v2, b2⟩ := FunD.binds1 (ps := ["self", "index"]) F_ParseError_i 1 0 (List.cons_ne_nil _ _) rfl fun _ _ _ _ _ _ _ us its hl hl2 => match us, hl, its, hl2 with | [_], _, [_], _ => ⟨_, rfl, rfl⟩
    exact ⟨He.glo_ok X G (c.fact 54 (f := .glo "ParseError") rfl), i_ParseError0, fd_ParseError_i, init_ok F_ParseError_i rfl sc_ParseError_i rfl rfl, ⟨ds, v, b⟩, ds2, v2, b2⟩
  have o_law_draw : FnOk P w K mg base (L2N.CX P w) 1 (He.fAd K ("_law_draw", none)) fd_law_draw ["_law_source_here", "_law_bound"] (lift ⟨K, OpS K, He.ga K⟩ fs_law_drawS) := vfn F_law_draw sc_law_draw l_law_draw fv_law_drawS (d_law_draw M )
  have g_law_draw : Gd P w ⟨K, OpS K, He.ga K⟩ mg base 1 "_law_draw" fs_law_drawS ["_law_source_here", "_law_bound"] [] := ⟨_, _, He.glo_ok X G (c.fact 0 (f := .glo "_law_draw") rfl), F_law_draw.kp, o_law_draw, [], .nil, FunD.bindsN F_law_draw fun _ _ _ _ _ _ us hl => match us, hl with | [_, _], _ => rfl⟩
  have o_law_change : FnOk P w K mg base (L2N.CX P w) 2 (He.fAd K ("_law_change", none)) fd_law_change ["_law_source_here", "_law_line"] (lift ⟨K, OpS K, He.ga K⟩ fs_law_change) := vfn F_law_change sc_law_change l_law_change fv_law_change (d_law_change M (g_law_draw.mono (by decide)))
  have g_law_change : Gd P w ⟨K, OpS K, He.ga K⟩ mg base 2 "_law_change" fs_law_change ["_law_source_here", "_law_line"] [] := ⟨_, _, He.glo_ok X G (c.fact 1 (f := .glo "_law_change") rfl), F_law_change.kp, o_law_change, [], .nil, FunD.bindsN F_law_change fun _ _ _ _ _ _ us hl => match us, hl with | [_, _], _ => rfl⟩
  have o_law_kind : FnOk P w K mg base (L2N.CX P w) 1 (He.fAd K ("_law_kind", none)) fd_law_kind ["_law_error"] (lift ⟨K, OpS K, He.ga K⟩ fs_law_kindC) := vfn F_law_kind sc_law_kind l_law_kind fv_law_kindC (d_law_kind M )
  have g_law_kind : Gd P w ⟨K, OpS K, He.ga K⟩ mg base 1 "_law_kind" fs_law_kindC ["_law_error"] [] := ⟨_, _, He.glo_ok X G (c.fact 2 (f := .glo "_law_kind") rfl), F_law_kind.kp, o_law_kind, [], .nil, FunD.bindsN F_law_kind fun _ _ _ _ _ _ us hl => match us, hl with | [_], _ => rfl⟩
  have o_is_name : FnOk P w K mg base (L2N.CX P w) 1 (He.fAd K ("is_name", none)) fd_is_name ["value"] (lift ⟨K, OpS K, He.ga K⟩ fs_is_nameX) := vfn F_is_name sc_is_name l_is_name fv_is_nameX (d_is_name M )
  have g_is_name : Gd P w ⟨K, OpS K, He.ga K⟩ mg base 1 "is_name" fs_is_nameX ["value"] [] := ⟨_, _, He.glo_ok X G (c.fact 3 (f := .glo "is_name") rfl), F_is_name.kp, o_is_name, [], .nil, FunD.bindsN F_is_name fun _ _ _ _ _ _ us hl => match us, hl with | [_], _ => rfl⟩
  have o_parse_integer : FnOk P w K mg base (L2N.CX P w) 1 (He.fAd K ("parse_integer", none)) fd_parse_integer ["word"] (lift ⟨K, OpS K, He.ga K⟩ fs_parse_integerX) := vfn F_parse_integer sc_parse_integer l_parse_integer fv_parse_integerX (d_parse_integer M )
  have g_parse_integer : Gd P w ⟨K, OpS K, He.ga K⟩ mg base 1 "parse_integer" fs_parse_integerX ["word"] [] := ⟨_, _, He.glo_ok X G (c.fact 4 (f := .glo "parse_integer") rfl), F_parse_integer.kp, o_parse_integer, [], .nil, FunD.bindsN F_parse_integer fun _ _ _ _ _ _ us hl => match us, hl with | [_], _ => rfl⟩
  have o_parse_item : FnOk P w K mg base (L2N.CX P w) 2 (He.fAd K ("parse_item", none)) fd_parse_item ["word", "marks"] (lift ⟨K, OpS K, He.ga K⟩ fs_parse_itemX) := vfn F_parse_item sc_parse_item l_parse_item fv_parse_itemX (d_parse_item M (g_is_name.mono (by decide)) (g_parse_integer.mono (by decide)))
  have g_parse_item : Gd P w ⟨K, OpS K, He.ga K⟩ mg base 2 "parse_item" fs_parse_itemX ["word", "marks"] [] := ⟨_, _, He.glo_ok X G (c.fact 5 (f := .glo "parse_item") rfl), F_parse_item.kp, o_parse_item, [], .nil, FunD.bindsN F_parse_item fun _ _ _ _ _ _ us hl => match us, hl with | [_, _], _ => rfl⟩
  have o_parse_score : FnOk P w K mg base (L2N.CX P w) 3 (He.fAd K ("parse_score", none)) fd_parse_score ["text"] (lift ⟨K, OpS K, He.ga K⟩ fs_parse_scoreY) := vfn F_parse_score sc_parse_score l_parse_score fv_parse_scoreY (d_parse_score M (g_parse_item.mono (by decide)) i_ParseError)
  have g_parse_score : Gd P w ⟨K, OpS K, He.ga K⟩ mg base 3 "parse_score" fs_parse_scoreY ["text"] [] := ⟨_, _, He.glo_ok X G (c.fact 6 (f := .glo "parse_score") rfl), F_parse_score.kp, o_parse_score, [], .nil, FunD.bindsN F_parse_score fun _ _ _ _ _ _ us hl => match us, hl with | [_], _ => rfl⟩
  have o_law_found : FnOk P w K mg base (L2N.CX P w) 4 (He.fAd K ("_law_found", none)) fd_law_found ["_law_line"] (lift ⟨K, OpS K, He.ga K⟩ fs_law_found) := vfn F_law_found sc_law_found l_law_found fv_law_found (d_law_found M (g_law_kind.mono (by decide)) (g_parse_score.mono (by decide)))
  have g_law_found : Gd P w ⟨K, OpS K, He.ga K⟩ mg base 4 "_law_found" fs_law_found ["_law_line"] [] := ⟨_, _, He.glo_ok X G (c.fact 7 (f := .glo "_law_found") rfl), F_law_found.kp, o_law_found, [], .nil, FunD.bindsN F_law_found fun _ _ _ _ _ _ us hl => match us, hl with | [_], _ => rfl⟩
  have o_law_has_long_number : FnOk P w K mg base (L2N.CX P w) 1 (He.fAd K ("_law_has_long_number", none)) fd_law_has_long_number ["_law_line"] (lift ⟨K, OpS K, He.ga K⟩ fs_law_has_long_number) := vfn F_law_has_long_number sc_law_has_long_number l_law_has_long_number fv_law_has_long_number (d_law_has_long_number M )
  have g_law_has_long_number : Gd P w ⟨K, OpS K, He.ga K⟩ mg base 1 "_law_has_long_number" fs_law_has_long_number ["_law_line"] [] := ⟨_, _, He.glo_ok X G (c.fact 8 (f := .glo "_law_has_long_number") rfl), F_law_has_long_number.kp, o_law_has_long_number, [], .nil, FunD.bindsN F_law_has_long_number fun _ _ _ _ _ _ us hl => match us, hl with | [_], _ => rfl⟩
  have o_law_items : FnOk P w K mg base (L2N.CX P w) 2 (He.fAd K ("_law_items", none)) fd_law_items ["_law_source_here", "_law_most", "_law_cap"] (lift ⟨K, OpS K, He.ga K⟩ fs_law_itemsS) := vfn F_law_items sc_law_items l_law_items fv_law_itemsS (d_law_items M (g_law_draw.mono (by decide)))
  have g_law_items : Gd P w ⟨K, OpS K, He.ga K⟩ mg base 2 "_law_items" fs_law_itemsS ["_law_source_here", "_law_most", "_law_cap"] [] := ⟨_, _, He.glo_ok X G (c.fact 9 (f := .glo "_law_items") rfl), F_law_items.kp, o_law_items, [], .nil, FunD.bindsN F_law_items fun _ _ _ _ _ _ us hl => match us, hl with | [_, _, _], _ => rfl⟩
  have o_law_menu_line : FnOk P w K mg base (L2N.CX P w) 2 (He.fAd K ("_law_menu_line", none)) fd_law_menu_line ["_law_source_here"] (lift ⟨K, OpS K, He.ga K⟩ fs_law_menu_line) := vfn F_law_menu_line sc_law_menu_line l_law_menu_line fv_law_menu_line (d_law_menu_line M (g_law_draw.mono (by decide)))
  have g_law_menu_line : Gd P w ⟨K, OpS K, He.ga K⟩ mg base 2 "_law_menu_line" fs_law_menu_line ["_law_source_here"] [] := ⟨_, _, He.glo_ok X G (c.fact 10 (f := .glo "_law_menu_line") rfl), F_law_menu_line.kp, o_law_menu_line, [], .nil, FunD.bindsN F_law_menu_line fun _ _ _ _ _ _ us hl => match us, hl with | [_], _ => rfl⟩
  have o_law_notation : FnOk P w K mg base (L2N.CX P w) 1 (He.fAd K ("_law_notation", none)) fd_law_notation ["_law_items_here"] (lift ⟨K, OpS K, He.ga K⟩ fs_law_notation) := vfn F_law_notation sc_law_notation l_law_notation fv_law_notation (d_law_notation M )
  have g_law_notation : Gd P w ⟨K, OpS K, He.ga K⟩ mg base 1 "_law_notation" fs_law_notation ["_law_items_here"] [] := ⟨_, _, He.glo_ok X G (c.fact 11 (f := .glo "_law_notation") rfl), F_law_notation.kp, o_law_notation, [], .nil, FunD.bindsN F_law_notation fun _ _ _ _ _ _ us hl => match us, hl with | [_], _ => rfl⟩
  have o_law_integer : FnOk P w K mg base (L2N.CX P w) 1 (He.fAd K ("_law_integer", none)) fd_law_integer ["_law_word"] (lift ⟨K, OpS K, He.ga K⟩ fs_law_integer) := vfn F_law_integer sc_law_integer l_law_integer fv_law_integer (d_law_integer M )
  have g_law_integer : Gd P w ⟨K, OpS K, He.ga K⟩ mg base 1 "_law_integer" fs_law_integer ["_law_word"] [] := ⟨_, _, He.glo_ok X G (c.fact 12 (f := .glo "_law_integer") rfl), F_law_integer.kp, o_law_integer, [], .nil, FunD.bindsN F_law_integer fun _ _ _ _ _ _ us hl => match us, hl with | [_], _ => rfl⟩
  have o_law_is_name : FnOk P w K mg base (L2N.CX P w) 1 (He.fAd K ("_law_is_name", none)) fd_law_is_name ["_law_word"] (lift ⟨K, OpS K, He.ga K⟩ fs_law_is_name) := vfn F_law_is_name sc_law_is_name l_law_is_name fv_law_is_name (d_law_is_name M )
  have g_law_is_name : Gd P w ⟨K, OpS K, He.ga K⟩ mg base 1 "_law_is_name" fs_law_is_name ["_law_word"] [] := ⟨_, _, He.glo_ok X G (c.fact 13 (f := .glo "_law_is_name") rfl), F_law_is_name.kp, o_law_is_name, [], .nil, FunD.bindsN F_law_is_name fun _ _ _ _ _ _ us hl => match us, hl with | [_], _ => rfl⟩
  have o_law_item : FnOk P w K mg base (L2N.CX P w) 2 (He.fAd K ("_law_item", none)) fd_law_item ["_law_word", "_law_marks"] (lift ⟨K, OpS K, He.ga K⟩ fs_law_item) := vfn F_law_item sc_law_item l_law_item fv_law_item (d_law_item M (g_law_integer.mono (by decide)) (g_law_is_name.mono (by decide)))
  have g_law_item : Gd P w ⟨K, OpS K, He.ga K⟩ mg base 2 "_law_item" fs_law_item ["_law_word", "_law_marks"] [] := ⟨_, _, He.glo_ok X G (c.fact 14 (f := .glo "_law_item") rfl), F_law_item.kp, o_law_item, [], .nil, FunD.bindsN F_law_item fun _ _ _ _ _ _ us hl => match us, hl with | [_, _], _ => rfl⟩
  have o_law_parse : FnOk P w K mg base (L2N.CX P w) 3 (He.fAd K ("_law_parse", none)) fd_law_parse ["_law_line"] (lift ⟨K, OpS K, He.ga K⟩ fs_law_parse) := vfn F_law_parse sc_law_parse l_law_parse fv_law_parse (d_law_parse M (g_law_item.mono (by decide)))
  have g_law_parse : Gd P w ⟨K, OpS K, He.ga K⟩ mg base 3 "_law_parse" fs_law_parse ["_law_line"] [] := ⟨_, _, He.glo_ok X G (c.fact 15 (f := .glo "_law_parse") rfl), F_law_parse.kp, o_law_parse, [], .nil, FunD.bindsN F_law_parse fun _ _ _ _ _ _ us hl => match us, hl with | [_], _ => rfl⟩
  have o_law_same_0 : FnOk P w K mg base (L2N.CX P w) 1 (He.fAd K ("_law_same", none)) fd_law_same ["_law_found_here", "_law_due"] (lift ⟨K, OpS K, He.ga K⟩ (fsRec_law_same 0)) := FunD.ok F_law_same sc_law_same (fun _ _ _ _ h => (no_lift h).elim) fun _ _ _ _ _ _ _ _ _ h => (no_lift h).elim
  have g_law_same_0 : Gd P w ⟨K, OpS K, He.ga K⟩ mg base 1 "_law_same" (fsRec_law_same 0) ["_law_found_here", "_law_due"] [] := ⟨_, _, He.glo_ok X G (c.fact 16 (f := .glo "_law_same") rfl), F_law_same.kp, o_law_same_0, [], .nil, FunD.bindsN F_law_same fun _ _ _ _ _ _ us hl => match us, hl with | [_, _], _ => rfl⟩
  have o_law_same_1 : FnOk P w K mg base (L2N.CX P w) 2 (He.fAd K ("_law_same", none)) fd_law_same ["_law_found_here", "_law_due"] (lift ⟨K, OpS K, He.ga K⟩ (fsRec_law_same 1)) := vfn F_law_same sc_law_same (lRec_law_same 1) (fvRec_law_same 0) (d_law_same M g_law_same_0)
  have g_law_same_1 : Gd P w ⟨K, OpS K, He.ga K⟩ mg base 2 "_law_same" (fsRec_law_same 1) ["_law_found_here", "_law_due"] [] := ⟨_, _, He.glo_ok X G (c.fact 16 (f := .glo "_law_same") rfl), F_law_same.kp, o_law_same_1, [], .nil, FunD.bindsN F_law_same fun _ _ _ _ _ _ us hl => match us, hl with | [_, _], _ => rfl⟩
  have o_law_same_2 : FnOk P w K mg base (L2N.CX P w) 3 (He.fAd K ("_law_same", none)) fd_law_same ["_law_found_here", "_law_due"] (lift ⟨K, OpS K, He.ga K⟩ (fsRec_law_same 2)) := vfn F_law_same sc_law_same (lRec_law_same 2) (fvRec_law_same 1) (d_law_same M g_law_same_1)
  have g_law_same_2 : Gd P w ⟨K, OpS K, He.ga K⟩ mg base 3 "_law_same" (fsRec_law_same 2) ["_law_found_here", "_law_due"] [] := ⟨_, _, He.glo_ok X G (c.fact 16 (f := .glo "_law_same") rfl), F_law_same.kp, o_law_same_2, [], .nil, FunD.bindsN F_law_same fun _ _ _ _ _ _ us hl => match us, hl with | [_, _], _ => rfl⟩
  have o_law_same_3 : FnOk P w K mg base (L2N.CX P w) 4 (He.fAd K ("_law_same", none)) fd_law_same ["_law_found_here", "_law_due"] (lift ⟨K, OpS K, He.ga K⟩ (fsRec_law_same 3)) := vfn F_law_same sc_law_same (lRec_law_same 3) (fvRec_law_same 2) (d_law_same M g_law_same_2)
  have g_law_same_3 : Gd P w ⟨K, OpS K, He.ga K⟩ mg base 4 "_law_same" (fsRec_law_same 3) ["_law_found_here", "_law_due"] [] := ⟨_, _, He.glo_ok X G (c.fact 16 (f := .glo "_law_same") rfl), F_law_same.kp, o_law_same_3, [], .nil, FunD.bindsN F_law_same fun _ _ _ _ _ _ us hl => match us, hl with | [_, _], _ => rfl⟩
  have o_law_same_4 : FnOk P w K mg base (L2N.CX P w) 5 (He.fAd K ("_law_same", none)) fd_law_same ["_law_found_here", "_law_due"] (lift ⟨K, OpS K, He.ga K⟩ (fsRec_law_same 4)) := vfn F_law_same sc_law_same (lRec_law_same 4) (fvRec_law_same 3) (d_law_same M g_law_same_3)
  have g_law_same : Gd P w ⟨K, OpS K, He.ga K⟩ mg base 5 "_law_same" (fsRec_law_same 4) ["_law_found_here", "_law_due"] [] := ⟨_, _, He.glo_ok X G (c.fact 16 (f := .glo "_law_same") rfl), F_law_same.kp, o_law_same_4, [], .nil, FunD.bindsN F_law_same fun _ _ _ _ _ _ us hl => match us, hl with | [_, _], _ => rfl⟩
  have o_law_source : FnOk P w K mg base (L2N.CX P w) 1 (He.fAd K ("_law_source", none)) fd_law_source ["_law_script", "_law_k"] (lift ⟨K, OpS K, He.ga K⟩ fs_law_sourceS) := vfn F_law_source sc_law_source l_law_source fv_law_sourceS (d_law_source M )
  have g_law_source : Gd P w ⟨K, OpS K, He.ga K⟩ mg base 1 "_law_source" fs_law_sourceS ["_law_script", "_law_k"] [] := ⟨_, _, He.glo_ok X G (c.fact 17 (f := .glo "_law_source") rfl), F_law_source.kp, o_law_source, [], .nil, FunD.bindsN F_law_source fun _ _ _ _ _ _ us hl => match us, hl with | [_, _], _ => rfl⟩
  exact fun s H args us vs Q E hr e0 hbd r hsp => law_run F_law sc_law fv_law (d_law M (g_law_change.mono (by decide)) (g_law_found.mono (by decide)) (g_law_has_long_number.mono (by decide)) (g_law_items.mono (by decide)) (g_law_menu_line.mono (by decide)) (g_law_notation.mono (by decide)) (g_law_parse.mono (by decide)) (g_law_same.mono (by decide)) (g_law_source.mono (by decide)) i_NotReconstructible i_ParseError hnd) s H args us vs Q E hr e0 hbd r (law_ca hsp)
end K56
open PySem PySem.W PySem.Calls PyProof.Rows
theorem PySem.Challenge.cw_wornsigns_k56_parse_errors_holds : PySem.Challenge.rw_wornsigns_k56_parse_errors.Holds := by
  w_on; o_law
  refine HandSHeadRun.head_any (r := OpenLaw.row PySem.Challenge.rw_wornsigns_k56_parse_errors) (q := view (OpenLaw.row PySem.Challenge.rw_wornsigns_k56_parse_errors).prog [47]) (H := K56.hk) (ob := K56.ob) (M := 12000) (loose := K56.loose) (d := HandSHeadRun.topDef (OpenLaw.row PySem.Challenge.rw_wornsigns_k56_parse_errors).prog 47) (kwd := []) K56.ob_eq
    (by kernel_rfl) (fun s => by kernel_rfl) K56.run (by kernel_rfl) (by kernel_rfl) (by kernel_rfl) (by rfl) (by first | assumption | decide +kernel) (by decide +kernel) ⟨rfl, rfl, rfl, rfl, rfl, by decide +kernel⟩ ?hw ?hc
  case hw => w_witness2
  case hc =>
    refine VL.walk_lawB (l := PySem.Challenge.rw_wornsigns_k56_parse_errors) (k := 6) (y := "_law_script") rfl (by kernel_rfl) ⟨rfl, by decide, by decide⟩ ?F
    intro w mg fa h Y G hmg0
    obtain ⟨K, KX, cx, c⟩ := Y
    have hmg : mg ("law" : PySem.Str) = some (.ref fa) := by
      have e : (HandSHeadRun.topDef (OpenLaw.row PySem.Challenge.rw_wornsigns_k56_parse_errors).prog 47).name = ("law" : PySem.Str) := by kernel_rfl
      rw [← e]
      exact hmg0
    obtain ⟨fd, hb, hF⟩ := K56.facts (P := (PySem.Challenge.rw_wornsigns_k56_parse_errors).prog) (w := w) KX G hmg cx c
    exact ⟨K, fd, KX, hb, hF⟩
