import PyProof.Rows.All
import Wide.All
import OpenK.AllK
import Wide.FinOn
import HandS.ForMost
import HandS.Wide
import HandS.TupAny
import HandS.TupMul
import HandS.IsInst
import HandS.More
import HandS.WideBits
import HandS.Iter
import HandS.Style
import HandS.OwnEq
import PyProof.LongRange
import HandS.Zip
import HandS.SortInts
import HandS.Flt
import HandS.Deep
import KE.DataMinMax
import HandS.Dict
import HandS.ListItems
import HandS.SortRule
import HandS.SetFor
import HandS.Strs
import HandS.Flow
import PyProof.Rows.SetFrom
import HandS.Conv
import KE.GoesEnumKw
import PyProof.ZipIter
import HandS.NoneIn
import HandS.DictComp
import HandS.Comp
import HandS.RevRange
import KE.SortData
import KE.KDictWalk
import KE.KDictCopyH
import KE.GoesMore
import KE.GoesZip
import KE.KRevSl
import HandS.Defaults
import HandS.HeadHook2
import KE.DataCmp
import HandS.DictEq
import PyProof.SeqIndex
import HandS.DictSubView0
import HandS.TupSets
import PyProof.ReprRoads
import HandS.HeadEnd
import KE.KStateDown
import HandS.Head0
import HandS.Head1
import HandS.Head2
import HandS.HeadHook1
import HandS.HeadHook3
import HandS.HeadHook4
import PySem.Challenge.RW_leadbeats_k78_whole_rests_shared_by_roun
set_option Elab.async false
set_option linter.all false
set_option maxRecDepth 100000
set_option maxHeartbeats 4000000
namespace PySem
end PySem
namespace DL
end DL
namespace L2
end L2
namespace DL
open PySem L2 PySem.Spec PyProof.Rows
def tyNames : List String := ["NoneType", "bool", "int", "str", "tuple", "list", "dict"]
def isoTB (K : PySem.W.Frag) (C : Addr) : Bool := decide (PySem.W.findIn K (.ref C) "__class__" = some (some (.builtin "object.__class__"))) && (decide (PySem.W.specialIn K (.builtin "object.__class__") "__get__" = some (some (.builtin "getset_descriptor.__get__"))) && (decide (PySem.W.takesIn K (.builtin "object.__class__") = some true) && (decide (PySem.W.mroIn K C (.type "object") = some true) && tyNames.all fun U => decide (PySem.W.kitOne K (.type U) (.ref C) = some false))))
def kwAd (K : PySem.W.Frag) (p : Str × Option Str) (n : Str) : Addr := match K.lookup (He.fAd K p) with
  | some ⟨_, _, .func fd, _⟩ => (match fd.kwdefaults with
    | .ref D => (match PySem.W.nsIn K D n with
      | some (some (.ref T)) => T
      | _ => 0)
    | _ => 0)
  | _ => 0
def empB (K : PySem.W.Frag) (a : Addr) : Bool := match K.lookup a with
  | some ⟨.type c, _, .seq its _, _⟩ => decide (c = "tuple") && decide (its.toList = [])
  | _ => false
end DL
namespace W
open PySem L2 DL PyProof.Rows
def top (i : Nat) : Stmt := PySem.Challenge.pw_leadbeats_k78_whole_rests_shared_by_roun.main.body.getD i (.Pass ⟨0, 0, 0, 0⟩)
abbrev s__law_source_of : Stmt := (top 28)
abbrev s__law_next : Stmt := (top 29)
abbrev s__law_one : Stmt := (top 30)
abbrev s__law_pairs : Stmt := (top 33)
abbrev s_is_whole : Stmt := (top 7)
abbrev s_is_note_2 : Stmt := (top 22)
abbrev s_is_chord : Stmt := (top 24)
abbrev s_check_chords : Stmt := (top 25)
abbrev s_Table__init_ : Stmt := (inClass (top 26) 0)
abbrev s_Table_voices : Stmt := (inClass (top 26) 3)
abbrev s_check_voices : Stmt := (top 11)
abbrev s_Table_allowed : Stmt := (inClass (top 26) 4)
abbrev s_all_fours : Stmt := (top 16)
abbrev s_rests_fit : Stmt := (top 15)
abbrev s_Table_notes : Stmt := (inClass (top 26) 2)
abbrev s_is_note : Stmt := (top 12)
abbrev s_rests_shared : Stmt := (top 18)
abbrev s__law_cell_at : Stmt := (top 31)
abbrev s_check_notes : Stmt := (top 14)
abbrev s_rests_of : Stmt := (top 17)
abbrev s__law_mixed : Stmt := (top 32)
abbrev s_law : Stmt := (top 34)
end W
namespace W
open PySem PySem.Spec PyProof.Rows L2 DL
def d__law_source_of : He.DefD := ⟨("_law_source_of", none), "_law_source_of", "_law_source_of", defArgs s__law_source_of, defBody s__law_source_of, defScope s__law_source_of, [], []⟩
def d__law_next : He.DefD := ⟨("_law_next", none), "_law_next", "_law_next", defArgs s__law_next, defBody s__law_next, defScope s__law_next, [], []⟩
def d__law_one : He.DefD := ⟨("_law_one", none), "_law_one", "_law_one", defArgs s__law_one, defBody s__law_one, defScope s__law_one, [], []⟩
def d__law_pairs : He.DefD := ⟨("_law_pairs", none), "_law_pairs", "_law_pairs", defArgs s__law_pairs, defBody s__law_pairs, defScope s__law_pairs, [], []⟩
def d_is_whole : He.DefD := ⟨("is_whole", none), "is_whole", "is_whole", defArgs s_is_whole, defBody s_is_whole, defScope s_is_whole, [], []⟩
def d_is_note_2 : He.DefD := ⟨("is_note_tables", none), "is_note", "is_note", defArgs s_is_note_2, defBody s_is_note_2, defScope s_is_note_2, [], []⟩
def d_is_chord : He.DefD := ⟨("is_chord", none), "is_chord", "is_chord", defArgs s_is_chord, defBody s_is_chord, defScope s_is_chord, [], []⟩
def d_check_chords : He.DefD := ⟨("check_chords", none), "check_chords", "check_chords", defArgs s_check_chords, defBody s_check_chords, defScope s_check_chords, [], []⟩
def d_Table__init_ : He.DefD := ⟨("Table", some "__init__"), "__init__", "Table.__init__", defArgs s_Table__init_, defBody s_Table__init_, defScope s_Table__init_, [], []⟩
def d_Table_voices : He.DefD := ⟨("Table", some "voices"), "voices", "Table.voices", defArgs s_Table_voices, defBody s_Table_voices, defScope s_Table_voices, [], []⟩
def d_check_voices : He.DefD := ⟨("check_voices", none), "check_voices", "check_voices", defArgs s_check_voices, defBody s_check_voices, defScope s_check_voices, [], []⟩
def d_Table_allowed : He.DefD := ⟨("Table", some "allowed"), "allowed", "Table.allowed", defArgs s_Table_allowed, defBody s_Table_allowed, defScope s_Table_allowed, [], []⟩
def d_all_fours : He.DefD := ⟨("all_fours", none), "all_fours", "all_fours", defArgs s_all_fours, defBody s_all_fours, defScope s_all_fours, [], []⟩
def d_rests_fit : He.DefD := ⟨("rests_fit", none), "rests_fit", "rests_fit", defArgs s_rests_fit, defBody s_rests_fit, defScope s_rests_fit, [], []⟩
def d_Table_notes : He.DefD := ⟨("Table", some "notes"), "notes", "Table.notes", defArgs s_Table_notes, defBody s_Table_notes, defScope s_Table_notes, [], []⟩
def d_is_note : He.DefD := ⟨("is_note_which", none), "is_note", "is_note", defArgs s_is_note, defBody s_is_note, defScope s_is_note, [], []⟩
def d_rests_shared : He.DefD := ⟨("rests_shared", none), "rests_shared", "rests_shared", defArgs s_rests_shared, defBody s_rests_shared, defScope s_rests_shared, [], []⟩
def d__law_cell_at : He.DefD := ⟨("_law_cell_at", none), "_law_cell_at", "_law_cell_at", defArgs s__law_cell_at, defBody s__law_cell_at, defScope s__law_cell_at, [], []⟩
def d_check_notes : He.DefD := ⟨("check_notes", none), "check_notes", "check_notes", defArgs s_check_notes, defBody s_check_notes, defScope s_check_notes, [], []⟩
def d_rests_of : He.DefD := ⟨("rests_of", none), "rests_of", "rests_of", defArgs s_rests_of, defBody s_rests_of, defScope s_rests_of, [], []⟩
def d__law_mixed : He.DefD := ⟨("_law_mixed", none), "_law_mixed", "_law_mixed", defArgs s__law_mixed, defBody s__law_mixed, defScope s__law_mixed, [], []⟩
def d_law : He.DefD := ⟨("law", none), "law", "law", defArgs s_law, defBody s_law, defScope s_law, [], []⟩
def fn : List He.DefD := [d__law_source_of, d__law_next, d__law_one, d__law_pairs, d_is_whole, d_is_note_2, d_is_chord, d_check_chords, d_Table__init_, d_Table_voices, d_check_voices, d_Table_allowed, d_all_fours, d_rests_fit, d_Table_notes, d_is_note, d_rests_shared, d__law_cell_at, d_check_notes, d_rests_of, d__law_mixed, d_law]
def fa : List He.Fa := [.glo "_law_source_of", .glo "_law_next", .glo "_law_one", .glo "_law_pairs", .glo "is_whole", .glo "is_note_tables", .glo "is_chord", .glo "check_chords", .meth "Table" "voices", .glo "check_voices", .meth "Table" "allowed", .glo "all_fours", .glo "rests_fit", .meth "Table" "notes", .glo "is_note_which", .glo "rests_shared", .glo "_law_cell_at", .glo "check_notes", .glo "rests_of", .glo "_law_mixed", .glo "law", .cls "Table", .glo "Table", .mkr "Table", .noat "Table" "scale", .noat "Table" "choir", .noat "Table" "chords", .free "all", .free "bool", .free "enumerate", .free "int", .free "isinstance", .free "len", .free "list", .free "range", .free "repr", .free "sorted", .free "tuple", .int "MOST_SONG" 8, .int "MOST_SONGS" 12, .int "MOST_NOTES" 4, .int "MOST_VOICES" 4]
abbrev R : PySem.W.OpenRow := PySem.W.OpenLaw.row PySem.Challenge.rw_leadbeats_k78_whole_rests_shared_by_roun
def neB (K : PySem.W.Frag) (x : Str) : Bool := He.eqO (PySem.W.findIn K (.ref (He.ga K x)) "__ne__") (some (some (.builtin "object.__ne__"))) && decide (PySem.W.subIn K (.ref (He.ga K x)) (.type "object") = some true)
def ex (K : PySem.W.Frag) : Bool := true
abbrev hk : PySem.W.Hook := He.hookX 5 fa fn [] [] ex
def ob (s : PySem.W.SharedT) : He.AlX := He.obsX 5 fa fn [] [] ex (HandSHeadRun.getT s)
theorem ob_eq (s : PySem.W.SharedT) : ob s = hk.obs s.abs := He.obsX_eq (HandSHeadRun.getT_eq s)
def loose0 : List Str := ["_wall", "CanonError", "BadTable", "Unlike", "BadTune", "is_whole", "MOST_SONG", "MOST_SONGS", "check_voices", "is_note", "is_note_which", "check_notes", "rests_fit", "all_fours", "rests_of", "rests_shared", "MOST_NOTES", "MOST_VOICES", "is_note_tables", "is_chord", "check_chords", "Table", "_law_source_of", "_law_next", "_law_one", "_law_cell_at", "_law_mixed", "_law_pairs"]
def loose : List Str := loose0
theorem run (w : World) : HandSHeadRun.RunEq R (PySem.W.view R.prog [34]) hk ob 3900 loose w := by
  intro os
  kernel_rfl
end W
namespace DL
open PySem L2

/-- plain data: ins c l: an object of the class nr c with (at least) these fields by number; scr: the law's script -/
inductive D where
  | non | bl (b : Bool) | int (i : Int) | str (s : Str)
  | tup (l : List D) | lst (l : List D)
  | dK (l : List (Key × D)) | dT (l : List (List Key × D))
  | ins (c : Nat) (l : List (Nat × D))
  | scr (ns : List Int)
  /-- an empty tuple of the written part (a default) -/
  | stt
/-- what an owned (changeable) object holds -/
inductive Ct where
  | lst (l : List D) | dK (l : List (Key × D)) | dT (l : List (List Key × D))
@[reducible] def Ct.d : Ct → D
  | .lst l => .lst l
  | .dK l => .dK l
  | .dT l => .dT l

/-- the classes' places and the fields' names -/
structure Nm where
  K : PySem.W.Frag
  cm : Nat → Addr
  NM : List Str
@[reducible] def Nm.fm (n : Nm) (i : Nat) : Str := n.NM.getD i ""
def Good (n : Nm) (fs : List (Str × V)) : Prop := (fs.map (·.1)).Nodup ∧ ∀ f ∈ fs.map (·.1), f ∈ n.NM

mutual
@[reducible] def Rp (n : Nm) (F : Hp) : D → V → Prop
  | .non, v => v = .non
  | .bl b, v => v = .bl b
  | .int i, v => v = .int i
  | .str s, v => v = .str s
  | .tup l, v => ∃ a xs, v = .ref a ∧ F a = some (.tup xs) ∧ Rps n F l xs
  | .lst l, v => ∃ a xs, v = .ref a ∧ F a = some (.lst xs) ∧ Rps n F l xs
  | .dK l, v => ∃ a ob kvs, v = .ref a ∧ F a = some (.frz ob (.dK kvs)) ∧ RpK n F l kvs
  | .dT l, v => ∃ a ob kvs, v = .ref a ∧ F a = some (.frz ob (.dT kvs)) ∧ RpT n F l kvs
  | .ins c l, v => ∃ a dx fs, v = .ref a ∧ F a = some (.ins (n.cm c) dx fs) ∧ Good n fs ∧ RpF n F l fs
  | .scr ns, v => ∃ a, v = .ref a ∧ SqL n.K F a (ns.map V.int)
  | .stt, v => ∃ a, v = .ref a ∧ SqT n.K (fun _ => none) a []
@[reducible] def Rps (n : Nm) (F : Hp) : List D → List V → Prop
  | [], vs => vs = []
  | d :: ds, vs => ∃ v r, vs = v :: r ∧ Rp n F d v ∧ Rps n F ds r
@[reducible] def RpK (n : Nm) (F : Hp) : List (Key × D) → List (Key × V) → Prop
  | [], vs => vs = []
  | (k, d) :: ds, vs => ∃ v r, vs = (k, v) :: r ∧ Rp n F d v ∧ RpK n F ds r
@[reducible] def RpT (n : Nm) (F : Hp) : List (List Key × D) → List (List Key × V) → Prop
  | [], vs => vs = []
  | (k, d) :: ds, vs => ∃ v r, vs = (k, v) :: r ∧ Rp n F d v ∧ RpT n F ds r
@[reducible] def RpF (n : Nm) (F : Hp) : List (Nat × D) → List (Str × V) → Prop
  | [], _ => True
  | (k, d) :: ds, fs => (∃ v, fs.lookup (n.fm k) = some v ∧ Rp n F d v) ∧ RpF n F ds fs
end

/-- an object may have got further attributes -/
def Le (n : Nm) (o o' : HO) : Prop := o = o' ∨ ∃ C dx fs fs', o = .ins C dx fs ∧ o' = .ins C dx fs' ∧ (∀ f v, fs.lookup f = some v → fs'.lookup f = some v) ∧ Good n fs'
def Ext (n : Nm) (F H : Hp) : Prop := ∀ a o, F a = some o → ∃ o', H a = some o' ∧ Le n o o'
section
variable {n : Nm} {F F' F1 F2 H H' : Hp} {a : Addr} {o o' : HO}
theorem Le.refl (o : HO) : Le n o o := .inl rfl
theorem Le.trans {o1 o2 o3 : HO} (h : Le n o1 o2) (k : Le n o2 o3) : Le n o1 o3 := by
  rcases h with rfl | ⟨C, dx, fs, fs', rfl, rfl, h1, h2⟩
  · exact k
  · rcases k with rfl | ⟨C', dx', gs, gs', e, rfl, k1, k2⟩
    · exact .inr ⟨C, dx, fs, fs', rfl, rfl, h1, h2⟩
    · cases e
      exact .inr ⟨C, dx, fs, gs', rfl, rfl, fun f v e => k1 f v (h1 f v e), k2⟩
theorem Ext.refl : Ext n F F := fun a o h => ⟨o, h, .refl o⟩
theorem Ext.trans (h : Ext n F F1) (k : Ext n F1 F2) : Ext n F F2 := fun a o e => by
  obtain ⟨o1, e1, l1⟩ := h a o e
  obtain ⟨o2, e2, l2⟩ := k a o1 e1
  exact ⟨o2, e2, l1.trans l2⟩
theorem Ext.of (h : ∀ a o, F a = some o → H a = some o) : Ext n F H := fun a o e => ⟨o, h a o e, .refl o⟩
theorem Ext.new (h : F a = none) : Ext n F (upd F a o) := Ext.of fun b u e => by
  rw [upd_ne (ne_of_none e h)]; exact e
/-- no tuple -/
def ntup : HO → Bool
  | .tup _ => false
  | _ => true
/-- what may join the known part: what was known, what is new, a tuple that stands -/
abbrev Nw (F H : Hp) (a : Addr) (o : HO) : Prop := (∃ o0, F a = some o0) ∨ H a = none ∨ ∃ xs, o = .tup xs ∧ H a = some (.tup xs)
/-- a plain object (no instance) is kept -/
def plainO : HO → Bool
  | .ins _ _ _ => false
  | _ => true
theorem Ext.at (x : Ext n F H) (h : F a = some o) (p : plainO o = true) : H a = some o := by
  obtain ⟨o', e, l⟩ := x a o h
  rcases l with rfl | ⟨C, dx, fs, fs', rfl, _⟩
  · exact e
  · cases p
theorem Ext.lst {xs : List V} (x : Ext n F H) (h : F a = some (.lst xs)) : H a = some (.lst xs) := x.at h rfl
theorem Ext.ins {C dx : Addr} {fs : List (Str × V)} (x : Ext n F H) (h : F a = some (.ins C dx fs)) (g : Good n fs) : ∃ fs', H a = some (.ins C dx fs') ∧ (∀ f v, fs.lookup f = some v → fs'.lookup f = some v) ∧ Good n fs' := by
  obtain ⟨o', e, l⟩ := x a _ h
  rcases l with rfl | ⟨C', dx', gs, gs', e', rfl, h1, h2⟩
  · exact ⟨fs, e, fun _ _ q => q, g⟩
  · cases e'
    exact ⟨gs', e, h1, h2⟩
theorem Ext.rd {u : HO} (x : Ext n F H) (h : Rd F a u) (p : plainO u = true) : Rd H a u := by
  rcases h with h | ⟨ob, h⟩
  · exact .inl (x.at h p)
  · exact .inr ⟨ob, x.at h rfl⟩
theorem Ext.sqL {K : PySem.W.Frag} {xs : List V} (x : Ext n F H) (h : SqL K F a xs) : SqL K H a xs := by
  rcases h with h | h
  · exact .inl (x.rd h rfl)
  · exact .inr h
theorem Ext.sqT {K : PySem.W.Frag} {xs : List V} (x : Ext n F H) (h : SqT K F a xs) : SqT K H a xs := by
  rcases h with h | h
  · exact .inl (x.rd h rfl)
  · exact .inr h
theorem Ext.free (x : Ext n F H) (h : H a = none) : F a = none := by
  cases e : F a with
  | none => rfl
  | some o =>
    obtain ⟨o', e', _⟩ := x a o e
    rw [h] at e'; cases e'
end

mutual
theorem Rp.mono {n : Nm} {F F' : Hp} (x : Ext n F F') : ∀ (d : D) {v : V}, Rp n F d v → Rp n F' d v
  | .non, _, h => h
  | .bl _, _, h => h
  | .int _, _, h => h
  | .str _, _, h => h
  | .tup l, _, h => by
    obtain ⟨a, xs, e, t, r⟩ := h
    exact ⟨a, xs, e, x.at t rfl, Rps.mono x l r⟩
  | .lst l, _, h => by
    obtain ⟨a, xs, e, t, r⟩ := h
    exact ⟨a, xs, e, x.lst t, Rps.mono x l r⟩
  | .dK l, _, h => by
    obtain ⟨a, ob, xs, e, t, r⟩ := h
    exact ⟨a, ob, xs, e, x.at t rfl, RpK.mono x l r⟩
  | .dT l, _, h => by
    obtain ⟨a, ob, xs, e, t, r⟩ := h
    exact ⟨a, ob, xs, e, x.at t rfl, RpT.mono x l r⟩
  | .ins c l, _, h => by
    obtain ⟨a, dx, fs, e, t, g, r⟩ := h
    obtain ⟨fs', e', k, g'⟩ := x.ins t g
    exact ⟨a, dx, fs', e, e', g', RpF.mono x l k r⟩
  | .scr ns, _, h => by
    obtain ⟨a, e, t⟩ := h
    exact ⟨a, e, x.sqL t⟩
  | .stt, _, h => h
theorem Rps.mono {n : Nm} {F F' : Hp} (x : Ext n F F') : ∀ (l : List D) {vs : List V}, Rps n F l vs → Rps n F' l vs
  | [], _, h => h
  | d :: ds, _, h => by
    obtain ⟨v, r, e, h1, h2⟩ := h
    exact ⟨v, r, e, Rp.mono x d h1, Rps.mono x ds h2⟩
theorem RpK.mono {n : Nm} {F F' : Hp} (x : Ext n F F') : ∀ (l : List (Key × D)) {vs : List (Key × V)}, RpK n F l vs → RpK n F' l vs
  | [], _, h => h
  | (k, d) :: ds, _, h => by
    obtain ⟨v, r, e, h1, h2⟩ := h
    exact ⟨v, r, e, Rp.mono x d h1, RpK.mono x ds h2⟩
theorem RpT.mono {n : Nm} {F F' : Hp} (x : Ext n F F') : ∀ (l : List (List Key × D)) {vs : List (List Key × V)}, RpT n F l vs → RpT n F' l vs
  | [], _, h => h
  | (k, d) :: ds, _, h => by
    obtain ⟨v, r, e, h1, h2⟩ := h
    exact ⟨v, r, e, Rp.mono x d h1, RpT.mono x ds h2⟩
theorem RpF.mono {n : Nm} {F F' : Hp} (x : Ext n F F') : ∀ (l : List (Nat × D)) {fs fs' : List (Str × V)}, (∀ f v, fs.lookup f = some v → fs'.lookup f = some v) → RpF n F l fs → RpF n F' l fs'
  | [], _, _, _, _ => trivial
  | (k, d) :: ds, _, _, q, h => by
    obtain ⟨⟨v, e, h1⟩, h2⟩ := h
    exact ⟨⟨v, q _ _ e, Rp.mono x d h1⟩, RpF.mono x ds q h2⟩
end

section
variable {n : Nm} {F : Hp}
theorem Rps.length : ∀ {l : List D} {vs : List V}, Rps n F l vs → vs.length = l.length
  | [], _, h => by rw [show _ = [] from h]; rfl
  | d :: ds, _, h => by
    obtain ⟨v, r, rfl, _, h2⟩ := h
    simp [Rps.length h2]
theorem Rps.get : ∀ {l : List D} {vs : List V} {i : Nat} {d : D}, Rps n F l vs → l[i]? = some d → ∃ v, vs[i]? = some v ∧ Rp n F d v
  | [], _, i, d, _, e => by simp at e
  | d :: ds, _, 0, d', h, e => by
    obtain ⟨v, r, rfl, h1, h2⟩ := h
    simp at e; subst e
    exact ⟨v, rfl, h1⟩
  | d :: ds, _, i + 1, d', h, e => by
    obtain ⟨v, r, rfl, h1, h2⟩ := h
    obtain ⟨w, e2, q⟩ := Rps.get (i := i) h2 (by simpa using e)
    exact ⟨w, by simpa using e2, q⟩
theorem Rps.getV : ∀ {l : List D} {vs : List V} {i : Nat} {v : V}, Rps n F l vs → vs[i]? = some v → ∃ d, l[i]? = some d ∧ Rp n F d v := fun {l vs i v} h e => by
  cases q : l[i]? with
  | none =>
    have h1 := List.getElem?_eq_none_iff.mp q
    obtain ⟨h2, _⟩ := List.getElem?_eq_some_iff.mp e
    have := h.length
    omega
  | some d =>
    obtain ⟨w, e2, r⟩ := h.get q
    rw [e] at e2; cases e2
    exact ⟨d, rfl, r⟩
theorem Rps.append : ∀ {l m : List D} {vs ws : List V}, Rps n F l vs → Rps n F m ws → Rps n F (l ++ m) (vs ++ ws)
  | [], m, _, _, h, k => by
    rw [show _ = [] from h]; exact k
  | d :: ds, m, _, _, h, k => by
    obtain ⟨v, r, rfl, h1, h2⟩ := h
    exact ⟨v, r ++ _, rfl, h1, Rps.append h2 k⟩
theorem Rps.one {d : D} {v : V} (h : Rp n F d v) : Rps n F [d] [v] := ⟨v, [], rfl, h, rfl⟩
theorem Rps.set : ∀ {l : List D} {vs : List V} {d : D} {v : V} (i : Nat), Rps n F l vs → Rp n F d v → Rps n F (l.set i d) (vs.set i v)
  | [], _, d, v, i, h, r => by rw [show _ = [] from h]; exact rfl
  | d' :: ds, _, d, v, 0, h, r => by
    obtain ⟨w, rr, rfl, h1, h2⟩ := h
    exact ⟨v, rr, rfl, r, h2⟩
  | d' :: ds, _, d, v, i + 1, h, r => by
    obtain ⟨w, rr, rfl, h1, h2⟩ := h
    exact ⟨w, rr.set i v, rfl, h1, Rps.set i h2 r⟩
theorem Rps.drop : ∀ {l : List D} {vs : List V} (i : Nat), Rps n F l vs → Rps n F (l.drop i) (vs.drop i)
  | l, _, 0, h => h
  | [], _, i + 1, h => by rw [show _ = [] from h]; exact rfl
  | d :: ds, _, i + 1, h => by
    obtain ⟨v, r, rfl, h1, h2⟩ := h
    exact Rps.drop i h2
theorem Rps.take : ∀ {l : List D} {vs : List V} (i : Nat), Rps n F l vs → Rps n F (l.take i) (vs.take i)
  | _, _, 0, _ => rfl
  | [], _, i + 1, h => by rw [show _ = [] from h]; exact rfl
  | d :: ds, _, i + 1, h => by
    obtain ⟨v, r, rfl, h1, h2⟩ := h
    exact ⟨v, r.take i, rfl, h1, Rps.take i h2⟩
theorem Rps.reverse : ∀ {l : List D} {vs : List V}, Rps n F l vs → Rps n F l.reverse vs.reverse
  | [], _, h => by rw [show _ = [] from h]; exact rfl
  | d :: ds, _, h => by
    obtain ⟨v, r, rfl, h1, h2⟩ := h
    rw [List.reverse_cons, List.reverse_cons]
    exact (Rps.reverse h2).append (Rps.one h1)
theorem Rps.ints : ∀ {ns : List Int} {vs : List V}, Rps n F (ns.map D.int) vs → vs = ns.map V.int
  | [], _, h => h
  | i :: r, _, h => by
    obtain ⟨v, q, rfl, h1, h2⟩ := h
    rw [show v = .int i from h1, Rps.ints h2]; rfl
theorem Rps.of_ints : ∀ (ns : List Int), Rps n F (ns.map D.int) (ns.map V.int)
  | [] => rfl
  | i :: r => ⟨_, _, rfl, rfl, Rps.of_ints r⟩
theorem Rps.bls : ∀ {ns : List Bool} {vs : List V}, Rps n F (ns.map D.bl) vs → vs = ns.map V.bl
  | [], _, h => h
  | i :: r, _, h => by
    obtain ⟨v, q, rfl, h1, h2⟩ := h
    rw [show v = .bl i from h1, Rps.bls h2]; rfl
end

inductive Slot where
  | free | val (d : D) | own (c : Ct) | slf (c : Nat) (l : List (Nat × D))
/-- what is fixed within a def: F0, H0 the known part and the heap at the entry, pr: the parameters that are owned lists, dicts of a caller, by slot -/
structure Z where
  n : Nm
  F0 : Hp
  H0 : Hp
  pr : Nat → Option Addr
@[reducible] def CtOk (n : Nm) (F H : Hp) (a : Addr) : Ct → Prop
  | .lst l => ∃ xs, H a = some (.lst xs) ∧ Rps n F l xs
  | .dK l => ∃ xs, H a = some (.dK xs) ∧ RpK n F l xs
  | .dT l => ∃ xs, H a = some (.dT xs) ∧ RpT n F l xs
/-- an object's attributes, all of them, in order -/
@[reducible] def RpX (n : Nm) (F : Hp) : List (Nat × D) → List (Str × V) → Prop
  | [], fs => fs = []
  | (k, d) :: ds, fs => ∃ v r, fs = (n.fm k, v) :: r ∧ Rp n F d v ∧ RpX n F ds r
theorem RpX.mono {n : Nm} {F F' : Hp} (x : Ext n F F') : ∀ {l : List (Nat × D)} {fs : List (Str × V)}, RpX n F l fs → RpX n F' l fs
  | [], _, h => h
  | (k, d) :: ds, _, ⟨v, r, e, h1, h2⟩ => ⟨v, r, e, h1.mono x, RpX.mono x h2⟩
theorem RpX.keys {n : Nm} {F : Hp} : ∀ {l : List (Nat × D)} {fs : List (Str × V)}, RpX n F l fs → fs.map (·.1) = l.map fun p => n.fm p.1
  | [], _, h => by rw [show _ = [] from h]; rfl
  | (k, d) :: ds, _, ⟨v, r, e, h1, h2⟩ => by
    subst e
    simp [RpX.keys h2]
theorem lookup_none {fs : List (Str × V)} {f : Str} (h : f ∉ fs.map (·.1)) : fs.lookup f = none := by
  induction fs with
  | nil => rfl
  | cons p r ih =>
    obtain ⟨g, v⟩ := p
    have h1 : f ≠ g := fun e => h (by rw [e]; exact List.mem_cons_self)
    have h2 : f ∉ r.map (·.1) := fun e => h (List.mem_cons_of_mem _ e)
    rw [List.lookup_cons, show (f == g) = false from beq_eq_false_iff_ne.mpr h1]
    exact ih h2
theorem lookup_skip {r : List (Str × V)} {f g : Str} {v w : V} (nd : g ∉ r.map (·.1)) (h : r.lookup f = some v) : ((g, w) :: r).lookup f = some v := by
  rw [List.lookup_cons]
  by_cases e : f = g
  · subst e
    rw [lookup_none nd] at h; cases h
  · rw [show (f == g) = false from beq_eq_false_iff_ne.mpr e]
    exact h
theorem RpF.skip {n : Nm} {F : Hp} {g : Str} {w : V} : ∀ {l : List (Nat × D)} {r : List (Str × V)}, g ∉ r.map (·.1) → RpF n F l r → RpF n F l ((g, w) :: r)
  | [], _, _, _ => trivial
  | (k, d) :: ds, _, nd, ⟨⟨v, e, h1⟩, h2⟩ => ⟨⟨v, lookup_skip nd e, h1⟩, RpF.skip nd h2⟩
theorem RpX.rpf {n : Nm} {F : Hp} : ∀ {l : List (Nat × D)} {fs : List (Str × V)}, (fs.map (·.1)).Nodup → RpX n F l fs → RpF n F l fs
  | [], _, _, _ => trivial
  | (k, d) :: ds, _, nd, ⟨v, r, e, h1, h2⟩ => by
    subst e
    have nd' : (n.fm k :: r.map (·.1)).Nodup := nd
    obtain ⟨n1, n2⟩ := List.nodup_cons.mp nd'
    refine ⟨⟨v, ?_, h1⟩, RpF.skip n1 (RpX.rpf n2 h2)⟩
    rw [List.lookup_cons]
    simp
def SlotOk (z : Z) (F : Hp) (σ : L2.St) (H : Hp) (i : Nat) : Slot → Prop
  | .free => True
  | .val d => ∃ v, σ[i]? = some (some v) ∧ Rp z.n F d v
  | .own c => ∃ a, σ[i]? = some (some (.ref a)) ∧ F a = none ∧ (z.H0 a = none ∨ z.pr i = some a) ∧ CtOk z.n F H a c
  | .slf c l => ∃ a dx fs, σ[i]? = some (some (.ref a)) ∧ z.pr i = some a ∧ H a = some (.ins (z.n.cm c) dx fs) ∧ (∃ fs0, F a = some (.ins (z.n.cm c) dx fs0)) ∧ RpX z.n F l fs ∧ Good z.n fs ∧ i = 0
structure Rep (z : Z) (F : Hp) (σ : L2.St) (H : Hp) (S : List Slot) : Prop where
  ext : Ext z.n F H
  keep : ∀ a o, z.H0 a = some o → (∀ i, z.pr i ≠ some a) → H a = some o
  new : ∀ a o, F a = some o → Nw z.F0 z.H0 a o
  len : σ.length = S.length
  sl : ∀ i s, S[i]? = some s → SlotOk z F σ H i s
  pin : ∀ i a, z.pr i = some a → σ[i]? = some (some (.ref a))
  pi0 : ∀ i a, z.pr i = some a → (∃ o, z.H0 a = some o) ∧ ∃ o, H a = some o ∧ ntup o = true
  pf : ∀ i a, z.pr i = some a → F a = none ∨ ∃ o, z.F0 a = some o
  inj : ∀ (i j : Nat) (c c' : Ct) (a : Addr), S[i]? = some (.own c) → S[j]? = some (.own c') → σ[i]? = some (some (.ref a)) → σ[j]? = some (some (.ref a)) → i = j
theorem CtOk.ex {n : Nm} {F H : Hp} {a : Addr} : ∀ {c : Ct}, CtOk n F H a c → ∃ o, H a = some o ∧ plainO o = true ∧ ntup o = true
  | .lst _, ⟨_, h, _⟩ => ⟨_, h, rfl, rfl⟩
  | .dK _, ⟨_, h, _⟩ => ⟨_, h, rfl, rfl⟩
  | .dT _, ⟨_, h, _⟩ => ⟨_, h, rfl, rfl⟩
theorem CtOk.mono {n : Nm} {F F' H H' : Hp} {a : Addr} (x : Ext n F F') (h : ∀ o, H a = some o → plainO o = true → H' a = some o) : ∀ {c : Ct}, CtOk n F H a c → CtOk n F' H' a c
  | .lst l, ⟨xs, e, r⟩ => ⟨xs, h _ e rfl, r.mono x⟩
  | .dK l, ⟨xs, e, r⟩ => ⟨xs, h _ e rfl, r.mono x⟩
  | .dT l, ⟨xs, e, r⟩ => ⟨xs, h _ e rfl, r.mono x⟩

theorem all_or {α : Type} {p : α → Prop} : (∀ i, ¬ p i) ∨ ∃ i, p i := by
  by_cases h : ∃ i, p i
  · exact .inr h
  · exact .inl fun i hi => h ⟨i, hi⟩
section
variable {z : Z} {F F' : Hp} {σ : L2.St} {H H' : Hp} {S : List Slot}
/-- what stood at the entry stands -/
theorem Rep.old (r : Rep z F σ H S) {a : Addr} (h : H a = none) : z.H0 a = none := by
  cases e0 : z.H0 a with
  | none => rfl
  | some o1 =>
    rcases all_or (p := fun i => z.pr i = some a) with hp | ⟨i, hi⟩
    · have e2 := r.keep a o1 e0 hp
      rw [h] at e2; cases e2
    · obtain ⟨_, o, e, _⟩ := r.pi0 i a hi
      rw [h] at e; cases e
theorem Rep.newer (r : Rep z F σ H S) {F' : Hp} (x : Ext z.n F F') (nw : ∀ a o, F' a = some o → Nw F H a o) : ∀ a o, F' a = some o → Nw z.F0 z.H0 a o := fun a o h => by
  rcases nw a o h with ⟨o0, q⟩ | q | ⟨xs, rfl, q⟩
  · rcases r.new a o0 q with w | w | ⟨xs, rfl, w⟩
    · exact .inl w
    · exact .inr (.inl w)
    · have := x.at q rfl
      rw [h] at this; cases this
      exact .inr (.inr ⟨xs, rfl, w⟩)
  · exact .inr (.inl (r.old q))
  · cases e0 : z.H0 a with
    | none => exact .inr (.inl e0)
    | some o1 =>
      rcases all_or (p := fun i => z.pr i = some a) with hp | ⟨i, hi⟩
      · have e2 := r.keep a o1 e0 hp
        rw [q] at e2; cases e2
        exact .inr (.inr ⟨xs, rfl, e0⟩)
      · obtain ⟨_, o, e, e3⟩ := r.pi0 i a hi
        rw [q] at e; cases e; cases e3
theorem Ext.insEx {n : Nm} {a C dx : Addr} {fs : List (Str × V)} (x : Ext n F F') (h : F a = some (.ins C dx fs)) : ∃ fs', F' a = some (.ins C dx fs') := by
  obtain ⟨o', e, l⟩ := x a _ h
  rcases l with rfl | ⟨C', dx', gs, gs', e', rfl, _, _⟩
  · exact ⟨fs, e⟩
  · cases e'
    exact ⟨gs', e⟩
/-- all that was tracked is kept, the known part has grown by new objects -/
theorem Rep.grow (r : Rep z F σ H S) (x : Ext z.n F F') (nw : ∀ a o, F' a = some o → Nw F H a o) (k : ∀ a o, H a = some o → H' a = some o) (e : Ext z.n F' H') : Rep z F' σ H' S where
  ext := e
  keep := fun a o h hp => k a o (r.keep a o h hp)
  new := r.newer x nw
  len := r.len
  sl := fun i s h => by
    have q := r.sl i s h
    cases s with
    | free => trivial
    | val d =>
      obtain ⟨v, e1, h1⟩ := q
      exact ⟨v, e1, h1.mono x⟩
    | own c =>
      obtain ⟨a, e1, f, nw', c1⟩ := q
      obtain ⟨o, ho, po⟩ := c1.ex
      refine ⟨a, e1, ?_, nw', c1.mono x fun o' h' p' => k a o' h'⟩
      cases q : F' a with
      | none => rfl
      | some u =>
        rcases nw a u q with ⟨o0, q0⟩ | q0 | ⟨xs, _, q0⟩
        · rw [f] at q0; cases q0
        · rw [ho] at q0; cases q0
        · rw [ho] at q0; cases q0; cases po.2
    | slf c l =>
      obtain ⟨a, dx, fs, e1, p1, h1, ⟨fs0, f1⟩, x1, g1⟩ := q
      exact ⟨a, dx, fs, e1, p1, k _ _ h1, x.insEx f1, x1.mono x, g1⟩
  pin := r.pin
  pi0 := fun i a h => by
    obtain ⟨h1, o, h3, h4⟩ := r.pi0 i a h
    exact ⟨h1, o, k _ _ h3, h4⟩
  pf := fun i a h => by
    rcases r.pf i a h with q | q
    · refine .inl ?_
      obtain ⟨_, o, h3, h4⟩ := r.pi0 i a h
      cases q0 : F' a with
      | none => rfl
      | some u =>
        rcases nw a u q0 with ⟨o0, q1⟩ | q1 | ⟨xs, _, q1⟩
        · rw [q] at q1; cases q1
        · rw [h3] at q1; cases q1
        · rw [h3] at q1; cases q1; cases h4
    · exact .inr q
  inj := r.inj
/-- one new object of the known part -/
theorem Rep.lay (r : Rep z F σ H S) {a : Addr} (o : HO) (h : H a = none) : Rep z (upd F a o) σ (upd H a o) S :=
  r.grow (Ext.new (r.ext.free h)) (fun b u e => by
    by_cases q : b = a
    · subst q; exact .inr (.inl h)
    · rw [upd_ne q] at e; exact .inl ⟨u, e⟩) (fun b u e => by rw [upd_ne (ne_of_none e h)]; exact e) fun b u e => by
      by_cases q : b = a
      · subst q; rw [upd_same] at e; cases e; exact ⟨o, upd_same, .refl o⟩
      · rw [upd_ne q] at e ⊢; exact r.ext b u e
/-- one new object that is nobody's yet -/
theorem Rep.layF (r : Rep z F σ H S) {a : Addr} (o : HO) (h : H a = none) : Rep z F σ (upd H a o) S :=
  r.grow Ext.refl (fun b u e => .inl ⟨u, e⟩) (fun b u e => by rw [upd_ne (ne_of_none e h)]; exact e) (r.ext.trans (Ext.of fun b u e => by rw [upd_ne (ne_of_none e h)]; exact e))
/-- an object that is nobody's joins the known part -/
theorem Rep.join (r : Rep z F σ H S) {a : Addr} {o : HO} (h : H a = some o) (f : F a = none) (n0 : z.H0 a = none) (ne : ∀ (i : Nat) (c : Ct), S[i]? = some (.own c) → σ[i]? ≠ some (some (.ref a))) : Rep z (upd F a o) σ H S where
  ext := fun b u e => by
    by_cases q : b = a
    · subst q; rw [upd_same] at e; cases e; exact ⟨o, h, .refl o⟩
    · rw [upd_ne q] at e; exact r.ext b u e
  keep := r.keep
  new := fun b u e => by
    by_cases q : b = a
    · subst q; exact .inr (.inl n0)
    · rw [upd_ne q] at e; exact r.new b u e
  len := r.len
  sl := fun i s hs => by
    have q := r.sl i s hs
    cases s with
    | free => trivial
    | val d =>
      obtain ⟨v, e1, h1⟩ := q
      exact ⟨v, e1, h1.mono (Ext.new f)⟩
    | own c =>
      obtain ⟨b, e1, f1, nw', c1⟩ := q
      have nb : b ≠ a := fun e => ne i c hs (by rw [← e]; exact e1)
      exact ⟨b, e1, by rw [upd_ne nb]; exact f1, nw', c1.mono (Ext.new f) fun o' h' p' => h'⟩
    | slf c l =>
      obtain ⟨b, dx, fs, e1, p1, h1, ⟨fs0, f1⟩, x1, g1⟩ := q
      exact ⟨b, dx, fs, e1, p1, h1, ⟨fs0, by rw [upd_ne (ne_of_none f1 f)]; exact f1⟩, x1.mono (Ext.new f), g1⟩
  pin := r.pin
  pi0 := r.pi0
  pf := fun i b h => by
    rcases r.pf i b h with q | q
    · refine .inl ?_
      obtain ⟨⟨o1, h1⟩, _⟩ := r.pi0 i b h
      rw [upd_ne (fun e => by rw [e, n0] at h1; cases h1)]; exact q
    · exact .inr q
  inj := r.inj
end
end DL

namespace DL
open PySem L2

inductive Arg where
  | val (d : D) | ref (i : Nat)
abbrev SS := List Slot
abbrev DE := SS → (D → SS → Prop) → Prop
abbrev DO := SS → (Arg → SS → Prop) → Prop
abbrev DT := SS → (Bool → SS → Prop) → Prop
abbrev DF := SS → (Ct → SS → Prop) → Prop
abbrev DA := SS → (List Arg → SS → Prop) → Prop
@[reducible] def getS : SS → Nat → Slot
  | [], _ => .free
  | s :: _, 0 => s
  | _ :: r, i + 1 => getS r i
@[reducible] def setS : SS → Nat → Slot → SS
  | [], _, _ => []
  | _ :: r, 0, t => t :: r
  | s :: r, i + 1, t => s :: setS r i t
theorem getS_some : ∀ {S : SS} {i : Nat} {s : Slot}, getS S i = s → s ≠ .free → S[i]? = some s
  | [], i, s, h, n => by exact absurd h.symm n
  | t :: r, 0, s, h, n => by rw [← h]; rfl
  | t :: r, i + 1, s, h, n => by
    have q := getS_some (S := r) (i := i) h n
    simpa using q
theorem setS_len : ∀ (S : SS) (i : Nat) (t : Slot), (setS S i t).length = S.length
  | [], _, _ => rfl
  | _ :: r, 0, t => rfl
  | s :: r, i + 1, t => by
    show (setS r i t).length + 1 = r.length + 1
    rw [setS_len r i t]
theorem setS_get : ∀ {S : SS} {i j : Nat} {t s : Slot}, (setS S i t)[j]? = some s → (j = i ∧ s = t) ∨ (j ≠ i ∧ S[j]? = some s)
  | [], _, _, _, _, h => by cases h
  | _ :: r, 0, 0, t, s, h => by
    have e : some t = some s := h
    cases e
    exact .inl ⟨rfl, rfl⟩
  | _ :: r, 0, j + 1, t, s, h => .inr ⟨by omega, h⟩
  | u :: r, i + 1, 0, t, s, h => .inr ⟨by omega, h⟩
  | u :: r, i + 1, j + 1, t, s, h => by
    rcases setS_get (S := r) (i := i) (j := j) (t := t) (s := s) (by simpa using h) with ⟨a, b⟩ | ⟨a, b⟩
    · exact .inl ⟨by omega, b⟩
    · exact .inr ⟨by omega, by simpa using b⟩

/-- an operand, as data -/
@[reducible] def view (S : SS) (k : D → Prop) : Arg → Prop
  | .val d => k d
  | .ref i => match getS S i with
    | .val d => k d
    | .own c => k c.d
    | _ => False
/-- what may be read as d: the object itself stands in H, what it holds in F -/
@[reducible] def Rv (n : Nm) (F H : Hp) : D → V → Prop
  | .lst l, v => ∃ a xs, v = .ref a ∧ H a = some (.lst xs) ∧ Rps n F l xs
  | .dK l, v => ∃ a xs, v = .ref a ∧ Rd H a (.dK xs) ∧ RpK n F l xs
  | .dT l, v => ∃ a xs, v = .ref a ∧ Rd H a (.dT xs) ∧ RpT n F l xs
  | .tup l, v => ∃ a xs, v = .ref a ∧ F a = some (.tup xs) ∧ Rps n F l xs
  | .scr ns, v => ∃ a, v = .ref a ∧ SqL n.K F a (ns.map V.int)
  | .stt, v => ∃ a, v = .ref a ∧ SqT n.K (fun _ => none) a []
  | .ins c l, v => ∃ a dx fs, v = .ref a ∧ H a = some (.ins (n.cm c) dx fs) ∧ Good n fs ∧ RpF n F l fs
  | .non, v => v = .non
  | .bl b, v => v = .bl b
  | .int i, v => v = .int i
  | .str s, v => v = .str s
theorem Rp.rv {n : Nm} {F H : Hp} (x : Ext n F H) : ∀ {d : D} {v : V}, Rp n F d v → Rv n F H d v
  | .non, _, h => h
  | .bl _, _, h => h
  | .int _, _, h => h
  | .str _, _, h => h
  | .tup l, _, ⟨a, xs, e, t, r⟩ => ⟨a, xs, e, t, r⟩
  | .lst l, _, ⟨a, xs, e, t, r⟩ => ⟨a, xs, e, x.lst t, r⟩
  | .dK l, _, ⟨a, ob, xs, e, t, r⟩ => ⟨a, xs, e, .inr ⟨ob, x.at t rfl⟩, r⟩
  | .dT l, _, ⟨a, ob, xs, e, t, r⟩ => ⟨a, xs, e, .inr ⟨ob, x.at t rfl⟩, r⟩
  | .ins c l, _, ⟨a, dx, fs, e, t, g, r⟩ => by
    obtain ⟨fs', e', k, g'⟩ := x.ins t g
    exact ⟨a, dx, fs', e, e', g', RpF.mono Ext.refl l k r⟩
  | .scr ns, _, ⟨a, e, t⟩ => ⟨a, e, t⟩
  | .stt, _, h => h
theorem CtOk.rv {n : Nm} {F H : Hp} {a : Addr} : ∀ {c : Ct}, CtOk n F H a c → Rv n F H c.d (.ref a)
  | .lst _, ⟨xs, h, r⟩ => ⟨a, xs, rfl, h, r⟩
  | .dK _, ⟨xs, h, r⟩ => ⟨a, xs, rfl, .inl h, r⟩
  | .dT _, ⟨xs, h, r⟩ => ⟨a, xs, rfl, .inl h, r⟩
/-- an operand's value -/
def AOk (n : Nm) (F : Hp) (σ : L2.St) : Arg → V → Prop
  | .val d, v => Rp n F d v
  | .ref i, v => σ[i]? = some (some v)
theorem AOk.mono {n : Nm} {F F' : Hp} {σ : L2.St} (x : Ext n F F') : ∀ {a : Arg} {v : V}, AOk n F σ a v → AOk n F' σ a v
  | .val d, _, h => Rp.mono x d h
  | .ref i, _, h => h
theorem AOk.view {z : Z} {F : Hp} {σ : L2.St} {H : Hp} {S : SS} {k : D → Prop} (r : Rep z F σ H S) : ∀ {a : Arg} {v : V}, AOk z.n F σ a v → view S k a → ∃ d, Rv z.n F H d v ∧ k d
  | .val d, v, h, q => ⟨d, Rp.rv r.ext h, q⟩
  | .ref i, v, h, q => by
    have h' : σ[i]? = some (some v) := h
    dsimp only [DL.view] at q
    cases e : getS S i with
    | free => rw [e] at q; exact q.elim
    | slf c l => rw [e] at q; exact q.elim
    | val d =>
      rw [e] at q
      obtain ⟨w, e1, r1⟩ := r.sl i _ (getS_some e (by intro x; cases x))
      rw [h'] at e1; cases e1
      exact ⟨d, Rp.rv r.ext r1, q⟩
    | own c =>
      rw [e] at q
      obtain ⟨a, e1, _, _, c1⟩ := r.sl i _ (getS_some e (by intro x; cases x))
      rw [h'] at e1; cases e1
      exact ⟨c.d, c1.rv, q⟩

section
variable (z : Z) (F : Hp) (σ : L2.St)
def PostE (R : D → SS → Prop) : VK := fun v H' => ∃ F' S' d, Ext z.n F F' ∧ Rep z F' σ H' S' ∧ Rp z.n F' d v ∧ R d S'
def PostO (R : Arg → SS → Prop) : VK := fun v H' => ∃ F' S' a, Ext z.n F F' ∧ Rep z F' σ H' S' ∧ AOk z.n F' σ a v ∧ R a S'
def PostT (R : Bool → SS → Prop) : Bool → Hp → Prop := fun b H' => ∃ F' S', Ext z.n F F' ∧ Rep z F' σ H' S' ∧ R b S'
/-- a new object, nobody's yet -/
structure Fresh (F' : Hp) (H' : Hp) (S' : SS) (c : Ct) (a : Addr) : Prop where
  out : F' a = none
  new : z.H0 a = none
  ct : CtOk z.n F' H' a c
  ne : ∀ (i : Nat) (c' : Ct), S'[i]? = some (.own c') → σ[i]? ≠ some (some (.ref a))
def PostF (R : Ct → SS → Prop) : VK := fun v H' => ∃ F' S' c a, v = .ref a ∧ Ext z.n F F' ∧ Rep z F' σ H' S' ∧ Fresh z σ F' H' S' c a ∧ R c S'
def AOks (n : Nm) (F : Hp) (σ : L2.St) : List Arg → List V → Prop
  | [], vs => vs = []
  | a :: as, vs => ∃ v r, vs = v :: r ∧ AOk n F σ a v ∧ AOks n F σ as r
def PostA (R : List Arg → SS → Prop) : List V → Hp → Prop := fun vs H' => ∃ F' S' as, Ext z.n F F' ∧ Rep z F' σ H' S' ∧ AOks z.n F' σ as vs ∧ R as S'
end
def tE (z : Z) (f : DE) : TE := fun σ H Q => ∃ F S R, Rep z F σ H S ∧ f S R ∧ ∀ v H', PostE z F σ R v H' → Q v H'
def tO (z : Z) (f : DO) : TE := fun σ H Q => ∃ F S R, Rep z F σ H S ∧ f S R ∧ ∀ v H', PostO z F σ R v H' → Q v H'
def tT (z : Z) (f : DT) : TT := fun σ H Q => ∃ F S R, Rep z F σ H S ∧ f S R ∧ ∀ b H', PostT z F σ R b H' → Q b H'
def tF (z : Z) (f : DF) : TE := fun σ H Q => ∃ F S R, Rep z F σ H S ∧ f S R ∧ ∀ v H', PostF z F σ R v H' → Q v H'
def tA (z : Z) (f : DA) : TA := fun σ H Q => ∃ F S R, Rep z F σ H S ∧ f S R ∧ ∀ vs H', PostA z F σ R vs H' → Q vs H'
/-- the judgements -/
def JE (X : Cx) (z : Z) (e : Expr) (f : DE) : Prop := PE X e (tE z f)
def JO (X : Cx) (z : Z) (e : Expr) (f : DO) : Prop := PE X e (tO z f)
def JT (X : Cx) (z : Z) (e : Expr) (f : DT) : Prop := PT X e (tT z f)
def JW (X : Cx) (z : Z) (e : Expr) (f : DT) : Prop := PW X e (tT z f)
def JF (X : Cx) (z : Z) (e : Expr) (f : DF) : Prop := PE X e (tF z f)
def JA (X : Cx) (z : Z) (es : List Expr) (f : DA) : Prop := PA X es (tA z f)
section
variable {X : Cx} {z : Z} {e : Expr} {es : List Expr}
theorem EP.up {pins : List (Addr × Obj)} {σ : L2.St} {Q Q' : VK} {u : Value} {s : Shared} (h : EP X pins σ Q u s) (k : ∀ v H, Q v H → Q' v H) : EP X pins σ Q' u s := by
  obtain ⟨v, H', I, r, q⟩ := h
  exact ⟨v, H', I, r, k _ _ q⟩
theorem JE.of {t : TE} {f : DE} (h : PE X e t) (s : ∀ F σ H S R, Rep z F σ H S → f S R → t σ H (PostE z F σ R)) : JE X z e f :=
  ⟨fun pins st σ H Q I ⟨F, S, R, r, hf, k⟩ => thn (h.run pins st σ H _ I (s F σ H S R r hf)) fun _ _ q => EP.up q k⟩
theorem JO.of {t : TE} {f : DO} (h : PE X e t) (s : ∀ F σ H S R, Rep z F σ H S → f S R → t σ H (PostO z F σ R)) : JO X z e f :=
  ⟨fun pins st σ H Q I ⟨F, S, R, r, hf, k⟩ => thn (h.run pins st σ H _ I (s F σ H S R r hf)) fun _ _ q => EP.up q k⟩
theorem JF.of {t : TE} {f : DF} (h : PE X e t) (s : ∀ F σ H S R, Rep z F σ H S → f S R → t σ H (PostF z F σ R)) : JF X z e f :=
  ⟨fun pins st σ H Q I ⟨F, S, R, r, hf, k⟩ => thn (h.run pins st σ H _ I (s F σ H S R r hf)) fun _ _ q => EP.up q k⟩
theorem JT.of {t : TT} {f : DT} (h : PT X e t) (s : ∀ F σ H S R, Rep z F σ H S → f S R → t σ H (PostT z F σ R)) : JT X z e f :=
  ⟨fun pins st σ H Q I ⟨F, S, R, r, hf, k⟩ => thn (h.run pins st σ H _ I (s F σ H S R r hf)) fun _ _ ⟨H', I', q⟩ => ⟨H', I', k _ _ q⟩⟩
theorem JW.of {t : TT} {f : DT} (h : PW X e t) (s : ∀ F σ H S R, Rep z F σ H S → f S R → t σ H (PostT z F σ R)) : JW X z e f :=
  ⟨fun whole pins st σ H Q I ⟨F, S, R, r, hf, k⟩ => thn (h.run whole pins st σ H _ I (s F σ H S R r hf)) fun _ _ ⟨H', I', q⟩ => ⟨H', I', k _ _ q⟩⟩
theorem JA.of {t : TA} {f : DA} (h : PA X es t) (s : ∀ F σ H S R, Rep z F σ H S → f S R → t σ H (PostA z F σ R)) : JA X z es f :=
  ⟨fun pos pins st σ H Q I ⟨F, S, R, r, hf, k⟩ => thn (h.run pos pins st σ H _ I (s F σ H S R r hf)) fun _ _ ⟨vs, H', I', r, q⟩ => ⟨vs, H', I', r, k _ _ q⟩⟩
theorem JW.jt {f : DT} (h : JW X z e f) : JT X z e f := PW.pt h
end
section
variable {z : Z} {F : Hp} {σ : L2.St} {H : Hp} {S : SS}
theorem tE.use {f : DE} {R : D → SS → Prop} {Q : VK} (r : Rep z F σ H S) (h : f S R) (k : ∀ v H' F' S' d, Ext z.n F F' → Rep z F' σ H' S' → Rp z.n F' d v → R d S' → Q v H') : tE z f σ H Q :=
  ⟨F, S, R, r, h, fun v H' ⟨F', S', d, a, b, c, q⟩ => k v H' F' S' d a b c q⟩
theorem tO.use {f : DO} {R : Arg → SS → Prop} {Q : VK} (r : Rep z F σ H S) (h : f S R) (k : ∀ v H' F' S' d, Ext z.n F F' → Rep z F' σ H' S' → AOk z.n F' σ d v → R d S' → Q v H') : tO z f σ H Q :=
  ⟨F, S, R, r, h, fun v H' ⟨F', S', d, a, b, c, q⟩ => k v H' F' S' d a b c q⟩
theorem tT.use {f : DT} {R : Bool → SS → Prop} {Q : Bool → Hp → Prop} (r : Rep z F σ H S) (h : f S R) (k : ∀ b H' F' S', Ext z.n F F' → Rep z F' σ H' S' → R b S' → Q b H') : tT z f σ H Q :=
  ⟨F, S, R, r, h, fun v H' ⟨F', S', a, b, q⟩ => k v H' F' S' a b q⟩
theorem tF.use {f : DF} {R : Ct → SS → Prop} {Q : VK} (r : Rep z F σ H S) (h : f S R) (k : ∀ a H' F' S' c, Ext z.n F F' → Rep z F' σ H' S' → Fresh z σ F' H' S' c a → R c S' → Q (.ref a) H') : tF z f σ H Q :=
  ⟨F, S, R, r, h, fun v H' ⟨F', S', c, a, e, x, b, fr, q⟩ => by subst e; exact k a H' F' S' c x b fr q⟩
theorem tA.use {f : DA} {R : List Arg → SS → Prop} {Q : List V → Hp → Prop} (r : Rep z F σ H S) (h : f S R) (k : ∀ vs H' F' S' as, Ext z.n F F' → Rep z F' σ H' S' → AOks z.n F' σ as vs → R as S' → Q vs H') : tA z f σ H Q :=
  ⟨F, S, R, r, h, fun v H' ⟨F', S', d, a, b, c, q⟩ => k v H' F' S' d a b c q⟩
/-- the answer is at hand -/
theorem here {R : D → SS → Prop} {d : D} {v : V} {F' H' : Hp} (x : Ext z.n F F') (r : Rep z F' σ H' S) (h : Rp z.n F' d v) (q : R d S) : PostE z F σ R v H' := ⟨F', S, d, x, r, h, q⟩
end

def dVar (i : Nat) : DE := fun S R => match getS S i with
  | .val d => R d S
  | _ => False
def dC (d : D) : DE := fun S R => R d S
def oE (f : DE) : DO := fun S R => f S fun d S' => R (.val d) S'
def oRef (i : Nat) : DO := fun S R => R (.ref i) S
section
variable {X : Cx} {z : Z} {e : Expr}
theorem je_var {i : Nat} (h : PE X e (tVar i)) : JE X z e (dVar i) := JE.of h fun F σ H S R r hf => by
  unfold dVar at hf
  cases g : getS S i with
  | free => rw [g] at hf; exact hf.elim
  | slf c l => rw [g] at hf; exact hf.elim
  | own c => rw [g] at hf; exact hf.elim
  | val d =>
    rw [g] at hf
    obtain ⟨v, e1, r1⟩ := r.sl i _ (getS_some g (by intro x; cases x))
    exact ⟨v, e1, F, S, d, Ext.refl, r, r1, hf⟩
/-- constants -/
theorem je_c {v : V} {d : D} (h : PE X e (tC v)) (hd : ∀ n F, Rp n F d v) : JE X z e (dC d) := JE.of h fun F σ H S R r hf => ⟨F, S, d, Ext.refl, r, hd _ _, hf⟩
theorem je_int {i j pos} : JE X z (.Constant (.int i) j pos) (dC (.int i)) := je_c pe_int fun _ _ => rfl
theorem je_bl {i j pos} : JE X z (.Constant (.bool i) j pos) (dC (.bl i)) := je_c pe_bl fun _ _ => rfl
theorem je_non {j pos} : JE X z (.Constant .none j pos) (dC .non) := je_c pe_non fun _ _ => rfl
theorem je_str {x j pos} : JE X z (.Constant (.str x) j pos) (dC (.str x)) := je_c pe_str fun _ _ => rfl
/-- a constant of the module -/
theorem je_glob {x : Str} {v : V} {u : Value} {pos : Pos} {d : D} (hg : Gl X x) (hm : X.mg x = some u) (r : RelV v u) (hd : ∀ n F, Rp n F d v) (hb : (x == ("__debug__" : Str)) = false := by decide) : JE X z (.Name x pos) (dC d) :=
  JE.of (pe_glob hg hm r hb) fun F σ H S R r hf => ⟨F, S, d, Ext.refl, r, hd _ _, hf⟩
theorem jo_e {f : DE} (h : JE X z e f) : JO X z e (oE f) := JO.of h fun F σ H S R r hf => tE.use r hf fun v H' F' S' d x r' h' q => ⟨F', S', .val d, x, r', h', q⟩
end
/-- a slot that is known -/
def oVar (i : Nat) : DO := fun S R => match getS S i with
  | .val _ => R (.ref i) S
  | .own _ => R (.ref i) S
  | _ => False
theorem jo_var {X : Cx} {z : Z} {e : Expr} {i : Nat} (h : PE X e (tVar i)) : JO X z e (oVar i) := JO.of h fun F σ H S R r hf => by
  unfold oVar at hf
  cases g : getS S i with
  | free => rw [g] at hf; exact hf.elim
  | slf c l => rw [g] at hf; exact hf.elim
  | own c =>
    rw [g] at hf
    obtain ⟨a, e1, _⟩ := r.sl i _ (getS_some g (by intro x; cases x))
    exact ⟨_, e1, F, S, .ref i, Ext.refl, r, e1, hf⟩
  | val d =>
    rw [g] at hf
    obtain ⟨v, e1, r1⟩ := r.sl i _ (getS_some g (by intro x; cases x))
    exact ⟨v, e1, F, S, .ref i, Ext.refl, r, e1, hf⟩

abbrev G2 := D → D → (D → Prop) → Prop
def dBin (g : G2) (fa fb : DO) : DE := fun S R => fa S fun x S1 => fb S1 fun y S2 => view S2 (fun d => view S2 (fun e => g d e fun o => R o S2) y) x
structure S2 (z : Z) (r : R2) (g : G2) : Prop where
  ok : ∀ {F σ H S x y d e} {k : D → Prop}, Rep z F σ H S → Rv z.n F H d x → Rv z.n F H e y → g d e k → r x y H fun v H' => ∃ F' o, Ext z.n F F' ∧ Rep z F' σ H' S ∧ Rp z.n F' o v ∧ k o
section
variable {X : Cx} {z : Z} {a b c : Expr} {fa fb fc : DO} {pos : Pos} {r : R2} {g : G2}
theorem bin_use {F : Hp} {σ : L2.St} {H : Hp} {S : SS} {R : D → SS → Prop} {Q : VK} (s : S2 z r g) (hm : ∀ x y H Q Q', (∀ v H', Q v H' → Q' v H') → r x y H Q → r x y H Q') (rp : Rep z F σ H S) (hf : dBin g fa fb S R)
    (k : ∀ v H', PostE z F σ R v H' → Q v H') : tOp r (tO z fa) (tO z fb) σ H Q := by
  refine tO.use rp hf fun v1 H1 F1 S1 a1 x1 r1 k1 q1 => tO.use r1 q1 fun v2 H2 F2 S2 a2 x2 r2 k2 q2 => ?_
  obtain ⟨d, rv1, q3⟩ := (k1.mono x2).view r2 q2
  obtain ⟨e, rv2, q4⟩ := k2.view r2 q3
  refine hm _ _ _ _ _ (fun v H' ⟨F', o, x', r', h', q'⟩ => ?_) (s.ok r2 rv1 rv2 q4)
  exact k _ _ ⟨F', _, o, (x1.trans x2).trans x', r', h', q'⟩
end
/-- a rule on values that is monotone in what is wanted -/
def Mono2 (r : R2) : Prop := ∀ x y H Q Q', (∀ v H', Q v H' → Q' v H') → r x y H Q → r x y H Q'
structure BinD (X : Cx) (z : Z) (f : Value → Value → Sem Value) (g : G2) : Prop where
  ex : ∃ r, OpR X f r ∧ Mono2 r ∧ S2 z r g
section
variable {X : Cx} {z : Z} {a b c : Expr} {fa fb fc : DO} {pos : Pos} {r : R2} {g g' : G2}
theorem je_op {op : Operator} (h : BinD X z (binaryOp op) g) (ha : JO X z a fa) (hb : JO X z b fb) : JE X z (.BinOp a op b pos) (dBin g fa fb) := by
  obtain ⟨r, ho, hm, s⟩ := h.ex
  exact JE.of (pe_op ho ha hb) fun F σ H S R rp hf => bin_use s hm rp hf fun _ _ q => q
theorem je_cmp {op : CmpOp} (h : BinD X z (compareOp op) g) (ha : JO X z a fa) (hb : JO X z b fb) (hm : behindInMarks op b = false) : JE X z (.Compare a [op] [b] pos) (dBin g fa fb) := by
  obtain ⟨r, ho, hmo, s⟩ := h.ex
  exact JE.of (pe_cmpR ho ha hb hm) fun F σ H S R rp hf => bin_use s hmo rp hf fun _ _ q => q
/-- a bool's test -/
@[reducible] def onB (k : Bool → Prop) : D → Prop
  | .bl b => k b
  | _ => False
def dTB (f : DE) : DT := fun S R => f S fun d S' => onB (fun b => R b S') d
theorem onB.get {k : Bool → Prop} : ∀ {d : D}, onB k d → ∃ b, d = .bl b ∧ k b
  | .bl b, h => ⟨b, rfl, h⟩
  | .non, h => h.elim
  | .int _, h => h.elim
  | .str _, h => h.elim
  | .tup _, h => h.elim
  | .lst _, h => h.elim
  | .dK _, h => h.elim
  | .dT _, h => h.elim
  | .ins _ _, h => h.elim
  | .scr _, h => h.elim
  | .stt, h => h.elim
theorem jt_cmp {op : CmpOp} (h : BinD X z (compareOp op) g) (ha : JO X z a fa) (hb : JO X z b fb) (hm : behindInMarks op b = false) : JT X z (.Compare a [op] [b] pos) (dTB (dBin g fa fb)) := by
  obtain ⟨r, ho, hmo, s⟩ := h.ex
  refine JT.of (pt_cmpR ho ha hb hm) fun F σ H S R rp hf => bin_use s hmo rp hf fun v H' ⟨F', S', d, x, r', h', q⟩ => ?_
  obtain ⟨b, rfl, q⟩ := onB.get q
  exact ⟨b, h', F', S', x, r', q⟩
/-- an expression that gives a bool, as a test -/
theorem jt_val {f : DE} (h : JE X z a f) (he : ∀ whole, isTrue a X.env whole = (do let v ← whole; standAt a.pos; holding [v] (truthy v)) := by intro _; rfl) : JT X z a (dTB f) :=
  JT.of (pt_val h he) fun F σ H S R rp hf => tE.use rp hf fun v H' F' S' d x r' h' q => by
    obtain ⟨b, rfl, q⟩ := onB.get q
    exact ⟨b, h', F', S', x, r', q⟩
/-- chains -/
def dChain (g g' : G2) (fa fb fc : DO) : DE := fun S R => fa S fun x S1 => fb S1 fun y S2 => view S2 (fun d => view S2 (fun e => g d e (onB fun k => (k = true → fc S2 fun w S3 => view S3 (fun e' => view S3 (fun f => g' e' f fun o => R o S3) w) y) ∧ (k = false → R (.bl false) S2))) y) x
theorem chain_use {F : Hp} {σ : L2.St} {H : Hp} {S : SS} {R : D → SS → Prop} {Q : VK} {r r' : R2} (s : S2 z r g) (s' : S2 z r' g') (hm : Mono2 r) (hm' : Mono2 r') (rp : Rep z F σ H S) (hf : dChain g g' fa fb fc S R)
    (k : ∀ v H', PostE z F σ R v H' → Q v H') : tChain r r' (tO z fa) (tO z fb) (tO z fc) σ H Q := by
  refine tO.use rp hf fun v1 H1 F1 S1 a1 x1 r1 k1 q1 => tO.use r1 q1 fun v2 H2 F2 S2 a2 x2 r2 k2 q2 => ?_
  obtain ⟨d, rv1, q3⟩ := (k1.mono x2).view r2 q2
  obtain ⟨e, rv2, q4⟩ := k2.view r2 q3
  refine hm _ _ _ _ _ (fun v H3 ⟨F3, o, x3, r3, h3, q5⟩ => ?_) (s.ok r2 rv1 rv2 q4)
  obtain ⟨b, rfl, qt, qf⟩ := onB.get q5
  refine ⟨b, h3, ?_⟩
  cases b with
  | false => exact k _ _ ⟨F3, _, .bl false, (x1.trans x2).trans x3, r3, rfl, qf rfl⟩
  | true =>
    refine tO.use r3 (qt rfl) fun v4 H4 F4 S4 a4 x4 r4 k4 q6 => ?_
    obtain ⟨e', rv3, q7⟩ := (k2.mono (x3.trans x4)).view r4 q6
    obtain ⟨f, rv4, q8⟩ := k4.view r4 q7
    refine hm' _ _ _ _ _ (fun v H' ⟨F', o, x', r', h', q'⟩ => ?_) (s'.ok r4 rv3 rv4 q8)
    exact k _ _ ⟨F', _, o, (((x1.trans x2).trans x3).trans x4).trans x', r', h', q'⟩
theorem je_chain {op op' : CmpOp} (h : BinD X z (compareOp op) g) (h' : BinD X z (compareOp op') g') (ha : JO X z a fa) (hb : JO X z b fb) (hc : JO X z c fc) (hm : lastMarks [op, op'] [b, c] = false := by with_unfolding_all rfl) :
    JE X z (.Compare a [op, op'] [b, c] pos) (dChain g g' fa fb fc) := by
  obtain ⟨r, ho, hmo, s⟩ := h.ex
  obtain ⟨r', ho', hmo', s'⟩ := h'.ex
  exact JE.of (pe_chain ho ho' ha hb hc hm) fun F σ H S R rp hf => chain_use s s' hmo hmo' rp hf fun _ _ q => q
theorem jt_chain {op op' : CmpOp} (h : BinD X z (compareOp op) g) (h' : BinD X z (compareOp op') g') (ha : JO X z a fa) (hb : JO X z b fb) (hc : JO X z c fc) (hm : lastMarks [op, op'] [b, c] = false := by with_unfolding_all rfl) :
    JT X z (.Compare a [op, op'] [b, c] pos) (dTB (dChain g g' fa fb fc)) := by
  obtain ⟨r, ho, hmo, s⟩ := h.ex
  obtain ⟨r', ho', hmo', s'⟩ := h'.ex
  refine JT.of (pt_chain ho ho' ha hb hc hm) fun F σ H S R rp hf => chain_use s s' hmo hmo' rp hf fun v H' ⟨F', S', d, x, r', h', q⟩ => ?_
  obtain ⟨b, rfl, q⟩ := onB.get q
  exact ⟨b, h', F', S', x, r', q⟩
end
def dAnd (f g : DT) : DT := fun S R => f S fun b S1 => (b = true → g S1 R) ∧ (b = false → R false S1)
def dOr (f g : DT) : DT := fun S R => f S fun b S1 => (b = true → R true S1) ∧ (b = false → g S1 R)
def dNot (f : DT) : DT := fun S R => f S fun b S1 => R (!b) S1
def eAnd (f g : DE) : DE := fun S R => f S fun d S1 => onB (fun b => (b = true → g S1 R) ∧ (b = false → R (.bl false) S1)) d
def eOr (f g : DE) : DE := fun S R => f S fun d S1 => onB (fun b => (b = true → R (.bl true) S1) ∧ (b = false → g S1 R)) d
def eNot (f : DE) : DE := fun S R => f S fun d S1 => onB (fun b => R (.bl (!b)) S1) d
def dIf (t : DT) (f g : DE) : DE := fun S R => t S fun b S1 => (b = true → f S1 R) ∧ (b = false → g S1 R)
section
variable {X : Cx} {z : Z} {a b c : Expr} {rest : List Expr} {f g : DT} {fe ge : DE} {pos : Pos}
theorem jw_and1 (h : JT X z a f) : JW X z (.BoolOp .And [a] pos) f := pw_and1 h
theorem jw_or1 (h : JT X z a f) : JW X z (.BoolOp .Or [a] pos) f := pw_or1 h
theorem jw_and (ha : JT X z a f) (hb : JW X z (.BoolOp .And (b :: rest) pos) g) : JW X z (.BoolOp .And (a :: b :: rest) pos) (dAnd f g) :=
  JW.of (pw_and ha hb) fun F σ H S R rp hf => tT.use rp hf fun k H' F' S' x r' q => by
    cases k with
    | true => exact iteT (tT.use r' (q.1 rfl) fun k H2 F2 S2 x2 r2 q2 => ⟨F2, S2, x.trans x2, r2, q2⟩)
    | false => exact iteF ⟨F', S', x, r', q.2 rfl⟩
theorem jw_or (ha : JT X z a f) (hb : JW X z (.BoolOp .Or (b :: rest) pos) g) : JW X z (.BoolOp .Or (a :: b :: rest) pos) (dOr f g) :=
  JW.of (pw_or ha hb) fun F σ H S R rp hf => tT.use rp hf fun k H' F' S' x r' q => by
    cases k with
    | true => exact iteT ⟨F', S', x, r', q.1 rfl⟩
    | false => exact iteF (tT.use r' (q.2 rfl) fun k H2 F2 S2 x2 r2 q2 => ⟨F2, S2, x.trans x2, r2, q2⟩)
theorem jt_not (ha : JT X z a f) : JT X z (.UnaryOp .Not a pos) (dNot f) :=
  JT.of (pt_not ha) fun F σ H S R rp hf => tT.use rp hf fun k H' F' S' x r' q => ⟨F', S', x, r', q⟩
theorem je_one {op} (h : JE X z a fe) : JE X z (.BoolOp op [a] pos) fe := pe_one h
theorem je_and (ha : JE X z a fe) (hb : JE X z (.BoolOp .And (b :: rest) pos) ge) : JE X z (.BoolOp .And (a :: b :: rest) pos) (eAnd fe ge) :=
  JE.of (pe_and ha hb) fun F σ H S R rp hf => tE.use rp hf fun v H' F' S' d x r' h' q => by
    obtain ⟨k, rfl, q⟩ := onB.get q
    refine ⟨k, h', ?_⟩
    cases k with
    | true => exact iteT (tE.use r' (q.1 rfl) fun v2 H2 F2 S2 d2 x2 r2 h2 q2 => ⟨F2, S2, d2, x.trans x2, r2, h2, q2⟩)
    | false => exact iteF ⟨F', S', .bl false, x, r', rfl, q.2 rfl⟩
theorem je_or (ha : JE X z a fe) (hb : JE X z (.BoolOp .Or (b :: rest) pos) ge) : JE X z (.BoolOp .Or (a :: b :: rest) pos) (eOr fe ge) :=
  JE.of (pe_or ha hb) fun F σ H S R rp hf => tE.use rp hf fun v H' F' S' d x r' h' q => by
    obtain ⟨k, rfl, q⟩ := onB.get q
    refine ⟨k, h', ?_⟩
    cases k with
    | true => exact iteT ⟨F', S', .bl true, x, r', rfl, q.1 rfl⟩
    | false => exact iteF (tE.use r' (q.2 rfl) fun v2 H2 F2 S2 d2 x2 r2 h2 q2 => ⟨F2, S2, d2, x.trans x2, r2, h2, q2⟩)
theorem je_not (ha : JE X z a fe) : JE X z (.UnaryOp .Not a pos) (eNot fe) :=
  JE.of (pe_not ha) fun F σ H S R rp hf => tE.use rp hf fun v H' F' S' d x r' h' q => by
    obtain ⟨k, rfl, q⟩ := onB.get q
    exact ⟨k, h', F', S', .bl (!k), x, r', rfl, q⟩
theorem je_if (hc : JT X z c f) (ha : JE X z a fe) (hb : JE X z b ge) : JE X z (.IfExp c a b pos) (dIf f fe ge) :=
  JE.of (pe_ifExp hc ha hb) fun F σ H S R rp hf => tT.use rp hf fun k H' F' S' x r' q => by
    cases k with
    | true => exact iteT (tE.use r' (q.1 rfl) fun v2 H2 F2 S2 d2 x2 r2 h2 q2 => ⟨F2, S2, d2, x.trans x2, r2, h2, q2⟩)
    | false => exact iteF (tE.use r' (q.2 rfl) fun v2 H2 F2 S2 d2 x2 r2 h2 q2 => ⟨F2, S2, d2, x.trans x2, r2, h2, q2⟩)
end
end DL

namespace DL
open PySem L2

@[reducible] def onI (k : Int → Prop) : D → Prop
  | .int i => k i
  | _ => False
@[reducible] def onL (k : List D → Prop) : D → Prop
  | .lst l => k l
  | _ => False
@[reducible] def onT (k : List D → Prop) : D → Prop
  | .tup l => k l
  | _ => False
theorem onI.get {k : Int → Prop} : ∀ {d : D}, onI k d → ∃ b, d = .int b ∧ k b
  | .int b, h => ⟨b, rfl, h⟩
  | .non, h => h.elim
  | .bl _, h => h.elim
  | .str _, h => h.elim
  | .tup _, h => h.elim
  | .lst _, h => h.elim
  | .dK _, h => h.elim
  | .dT _, h => h.elim
  | .ins _ _, h => h.elim
  | .scr _, h => h.elim
  | .stt, h => h.elim
theorem onL.get {k : List D → Prop} : ∀ {d : D}, onL k d → ∃ b, d = .lst b ∧ k b
  | .lst b, h => ⟨b, rfl, h⟩
  | .non, h => h.elim
  | .bl _, h => h.elim
  | .str _, h => h.elim
  | .tup _, h => h.elim
  | .int _, h => h.elim
  | .dK _, h => h.elim
  | .dT _, h => h.elim
  | .ins _ _, h => h.elim
  | .scr _, h => h.elim
  | .stt, h => h.elim
theorem onT.get {k : List D → Prop} : ∀ {d : D}, onT k d → ∃ b, d = .tup b ∧ k b
  | .tup b, h => ⟨b, rfl, h⟩
  | .non, h => h.elim
  | .bl _, h => h.elim
  | .str _, h => h.elim
  | .lst _, h => h.elim
  | .int _, h => h.elim
  | .dK _, h => h.elim
  | .dT _, h => h.elim
  | .ins _ _, h => h.elim
  | .scr _, h => h.elim
  | .stt, h => h.elim
/-- ints, under C -/
def gI (C : Int → Int → Prop) (f : Int → Int → D) : G2 := fun d e k => onI (fun i => onI (fun j => C i j ∧ k (f i j)) e) d
def gI0 (f : Int → Int → D) : G2 := fun d e k => onI (fun i => onI (fun j => k (f i j)) e) d
section
variable {X : Cx} {z : Z} {f : Value → Value → Sem Value}
theorem bin_I {C C' : Int → Int → Prop} {g : Int → Int → V} {gd : Int → Int → D} (ho : OpR X f (rI C g)) (hc : ∀ i j, C' i j → C i j) (hg : ∀ n F i j, Rp n F (gd i j) (g i j)) : BinD X z f (gI C' gd) :=
  ⟨⟨_, ho, fun x y H Q Q' k ⟨i, j, a, b, c, q⟩ => ⟨i, j, a, b, c, k _ _ q⟩, ⟨fun {F σ H S x y d e k} r r1 r2 q => by
    obtain ⟨i, rfl, q1⟩ := onI.get q
    obtain ⟨j, rfl, c, q2⟩ := onI.get q1
    exact ⟨i, j, r1, r2, hc _ _ c, F, _, Ext.refl, r, hg _ _ _ _, q2⟩⟩⟩⟩
theorem bin_I0 {g : Int → Int → V} {gd : Int → Int → D} (ho : OpR X f (rI0 g)) (hg : ∀ n F i j, Rp n F (gd i j) (g i j)) : BinD X z f (gI0 gd) :=
  ⟨⟨_, ho, fun x y H Q Q' k ⟨i, j, a, b, q⟩ => ⟨i, j, a, b, k _ _ q⟩, ⟨fun {F σ H S x y d e k} r r1 r2 q => by
    obtain ⟨i, rfl, q1⟩ := onI.get q
    obtain ⟨j, rfl, q2⟩ := onI.get q1
    exact ⟨i, j, r1, r2, F, _, Ext.refl, r, hg _ _ _ _, q2⟩⟩⟩⟩
end
def MulOk (i j : Int) : Prop := CMul i j ∨ CMulW i j
def DivOk (i j : Int) : Prop := CDivW i j
def gSub : G2 := fun d e k => onI (fun i => onI (fun j => k (.int (i - j))) e) d
def gDiv : G2 := fun d e k => onI (fun i => onI (fun j => DivOk i j ∧ k (.int (i / j))) e) d
def gMod : G2 := fun d e k => onI (fun i => onI (fun j => 0 < j ∧ k (.int (i % j))) e) d
def gPow : G2 := fun d e k => onI (fun i => onI (fun j => CPow i j ∧ k (.int (i ^ j.toNat))) e) d
def gLt : G2 := fun d e k => onI (fun i => onI (fun j => k (.bl (decide (i < j)))) e) d
def gLe : G2 := fun d e k => onI (fun i => onI (fun j => k (.bl (decide (i ≤ j)))) e) d
def gGt : G2 := fun d e k => onI (fun i => onI (fun j => k (.bl (decide (j < i)))) e) d
def gGe : G2 := fun d e k => onI (fun i => onI (fun j => k (.bl (decide (j ≤ i)))) e) d
/-- +: ints, lists, tuples -/
def gAdd : G2 := fun d e k => match d with
  | .int i => onI (fun j => k (.int (i + j))) e
  | .lst l => onL (fun m => l.length + m.length ≤ sizeLine ∧ k (.lst (l ++ m))) e
  | .tup l => onT (fun m => l.length + m.length ≤ sizeLine ∧ k (.tup (l ++ m))) e
  | _ => False
/-- *: ints, a tuple or a list so many times -/
def gMul : G2 := fun d e k => match d with
  | .int i => onI (fun j => MulOk i j ∧ k (.int (i * j))) e
  | .tup l => onI (fun j => l ≠ [] ∧ 2 ≤ j ∧ j ≤ 1000 ∧ l.length ≤ 1000 ∧ k (.tup (List.replicate j.toNat l).flatten)) e
  | .lst l => onI (fun j => -(2 ^ 63) ≤ j ∧ j < 2 ^ 63 ∧ l.length * j.toNat ≤ sizeLine ∧ k (.lst (List.replicate j.toNat l).flatten)) e
  | _ => False
theorem Rps.rep {n : Nm} {F : Hp} {l : List D} {xs : List V} (h : Rps n F l xs) : ∀ k : Nat, Rps n F (List.replicate k l).flatten (List.replicate k xs).flatten
  | 0 => rfl
  | k + 1 => by
    rw [List.replicate_succ, List.replicate_succ, List.flatten_cons, List.flatten_cons]
    exact h.append (Rps.rep h k)
theorem Rps.nil_iff {n : Nm} {F : Hp} {l : List D} {xs : List V} (h : Rps n F l xs) : l = [] ↔ xs = [] := by
  have := h.length
  constructor
  · rintro rfl; exact List.length_eq_zero_iff.mp (by simpa using this)
  · rintro rfl; exact List.length_eq_zero_iff.mp (by simpa using this.symm)
section
variable {X : Cx} {z : Z}
theorem bd_sub : BinD X z (binaryOp .Sub) gSub := bin_I0 (gd := fun i j => .int (i - j)) op_sub fun _ _ _ _ => rfl
theorem bd_div : BinD X z (binaryOp .FloorDiv) gDiv := bin_I (C' := DivOk) (gd := fun i j => .int (i / j)) op_fdivW (fun _ _ h => h) fun _ _ _ _ => rfl
theorem bd_mod : BinD X z (binaryOp .Mod) gMod := bin_I (C' := fun _ j => 0 < j) (gd := fun i j => .int (i % j)) op_mod (fun _ _ h => h) fun _ _ _ _ => rfl
theorem bd_pow : BinD X z (binaryOp .Pow) gPow := bin_I (C' := CPow) (gd := fun i j => .int (i ^ j.toNat)) op_pow (fun _ _ h => h) fun _ _ _ _ => rfl
theorem bd_lt : BinD X z (compareOp .Lt) gLt := bin_I0 (gd := fun i j => .bl (decide (i < j))) op_lt fun _ _ _ _ => rfl
theorem bd_le : BinD X z (compareOp .LtE) gLe := bin_I0 (gd := fun i j => .bl (decide (i ≤ j))) op_le fun _ _ _ _ => rfl
theorem bd_gt : BinD X z (compareOp .Gt) gGt := bin_I0 (gd := fun i j => .bl (decide (j < i))) op_gt fun _ _ _ _ => rfl
theorem bd_ge : BinD X z (compareOp .GtE) gGe := bin_I0 (gd := fun i j => .bl (decide (j ≤ i))) op_ge fun _ _ _ _ => rfl
theorem bd_add (hz : z.n.K = X.K) : BinD X z (binaryOp .Add) gAdd :=
  ⟨⟨_, OpR.or op_add (OpR.or op_cat op_catA), fun x y H Q Q' k h => by
    rcases h with ⟨i, j, a, b, q⟩ | ⟨l, b, xs, zs, e1, e2, h1, h2, hl, q⟩ | ⟨a, b, xs, ys, e1, e2, h1, h2, hl, q0, q1, q2⟩
    · exact .inl ⟨i, j, a, b, k _ _ q⟩
    · exact .inr (.inl ⟨l, b, xs, zs, e1, e2, h1, h2, hl, fun p hp => k _ _ (q p hp)⟩)
    · exact .inr (.inr ⟨a, b, xs, ys, e1, e2, h1, h2, hl, fun e => k _ _ (q0 e), fun e e' => k _ _ (q1 e e'), fun e e' p hp => k _ _ (q2 e e' p hp)⟩), ⟨fun {F σ H S x y d e k} r r1 r2 q => by
    cases d with
    | int i =>
      obtain ⟨j, rfl, q⟩ := onI.get q
      exact .inl ⟨i, j, r1, r2, F, _, Ext.refl, r, rfl, q⟩
    | lst l =>
      obtain ⟨m, rfl, hl, q⟩ := onL.get q
      obtain ⟨a, xs, rfl, h1, s1⟩ := r1
      obtain ⟨b, ys, rfl, h2, s2⟩ := r2
      refine .inr (.inl ⟨a, b, xs, ys, rfl, rfl, h1, h2, by rw [s1.length, s2.length]; exact hl, fun p hp => ?_⟩)
      exact ⟨_, .lst (l ++ m), Ext.new (r.ext.free hp), r.lay _ hp, ⟨p, xs ++ ys, rfl, upd_same, ((s1.mono (Ext.new (r.ext.free hp))).append (s2.mono (Ext.new (r.ext.free hp))))⟩, q⟩
    | tup l =>
      obtain ⟨m, rfl, hl, q⟩ := onT.get q
      obtain ⟨a, xs, rfl, h1, s1⟩ := r1
      obtain ⟨b, ys, rfl, h2, s2⟩ := r2
      refine .inr (.inr ⟨a, b, xs, ys, rfl, rfl, SqT.of (r.ext.at h1 rfl), SqT.of (r.ext.at h2 rfl), by rw [s1.length, s2.length]; exact hl, fun e => ?_, fun e e' => ?_, fun e e' p hp => ?_⟩)
      · have e1 := s1.nil_iff.mpr e
        subst e1
        exact ⟨F, .tup ([] ++ m), Ext.refl, r, ⟨b, ys, rfl, h2, s2⟩, q⟩
      · have e1 := s2.nil_iff.mpr e'
        subst e1
        refine ⟨F, .tup (l ++ []), Ext.refl, r, ⟨a, xs, rfl, h1, ?_⟩, q⟩
        rw [List.append_nil]; exact s1
      · exact ⟨_, .tup (l ++ m), Ext.new (r.ext.free hp), r.lay _ hp, ⟨p, xs ++ ys, rfl, upd_same, ((s1.mono (Ext.new (r.ext.free hp))).append (s2.mono (Ext.new (r.ext.free hp))))⟩, q⟩
    | non => exact q.elim
    | bl _ => exact q.elim
    | str _ => exact q.elim
    | dK _ => exact q.elim
    | dT _ => exact q.elim
    | ins _ _ => exact q.elim
    | scr _ => exact q.elim
    | stt => exact q.elim⟩⟩⟩
theorem bd_mul (hz : z.n.K = X.K) : BinD X z (binaryOp .Mult) gMul :=
  ⟨⟨_, OpR.or (OpR.or op_mul op_mulW) (OpR.or op_rep op_repT), fun x y H Q Q' k h => by
    rcases h with (⟨i, j, a, b, c, q⟩ | ⟨i, j, a, b, c, q⟩) | ⟨l, j, xs, e1, e2, h1, h2, h3, h4, q⟩ | ⟨l, j, xs, e1, e2, h1, h2, h3, h4, h5, q⟩
    · exact .inl (.inl ⟨i, j, a, b, c, k _ _ q⟩)
    · exact .inl (.inr ⟨i, j, a, b, c, k _ _ q⟩)
    · exact .inr (.inl ⟨l, j, xs, e1, e2, h1, h2, h3, h4, fun p hp => k _ _ (q p hp)⟩)
    · exact .inr (.inr ⟨l, j, xs, e1, e2, h1, h2, h3, h4, h5, fun p hp => k _ _ (q p hp)⟩), ⟨fun {F σ H S x y d e k} r r1 r2 q => by
    cases d with
    | int i =>
      obtain ⟨j, rfl, c, q1⟩ := onI.get q
      rcases c with c | c
      · exact .inl (.inl ⟨i, j, r1, r2, c, F, _, Ext.refl, r, rfl, q1⟩)
      · exact .inl (.inr ⟨i, j, r1, r2, c, F, _, Ext.refl, r, rfl, q1⟩)
    | lst l =>
      obtain ⟨j, rfl, c1, c2, c3, q1⟩ := onI.get q
      obtain ⟨a, xs, rfl, h1, s1⟩ := r1
      refine .inr (.inl ⟨a, j, xs, rfl, r2, h1, c1, c2, by rw [s1.length]; exact c3, fun p hp => ?_⟩)
      exact ⟨_, .lst _, Ext.new (r.ext.free hp), r.lay _ hp, ⟨p, _, rfl, upd_same, (s1.mono (Ext.new (r.ext.free hp))).rep _⟩, q1⟩
    | tup l =>
      obtain ⟨j, rfl, c1, c2, c3, c4, q1⟩ := onI.get q
      obtain ⟨a, xs, rfl, h1, s1⟩ := r1
      refine .inr (.inr ⟨a, j, xs, rfl, r2, SqT.of (r.ext.at h1 rfl), fun e => c1 (s1.nil_iff.mpr e), c2, c3, by rw [s1.length]; exact c4, fun p hp => ?_⟩)
      exact ⟨_, .tup _, Ext.new (r.ext.free hp), r.lay _ hp, ⟨p, _, rfl, upd_same, (s1.mono (Ext.new (r.ext.free hp))).rep _⟩, q1⟩
    | non => exact q.elim
    | bl _ => exact q.elim
    | str _ => exact q.elim
    | dK _ => exact q.elim
    | dT _ => exact q.elim
    | ins _ _ => exact q.elim
    | scr _ => exact q.elim
    | stt => exact q.elim⟩⟩⟩
end
@[reducible] def isNon : D → Bool
  | .non => true
  | _ => false
def gIsN : G2 := fun d e k => match e with
  | .non => k (.bl (isNon d))
  | _ => False
def gNotN : G2 := fun d e k => match e with
  | .non => k (.bl (!isNon d))
  | _ => False
theorem isNon_v {n : Nm} {F H : Hp} : ∀ {d : D} {x : V}, Rv n F H d x → decide (x = .non) = isNon d
  | .non, _, h => by rw [show _ = V.non from h]; rfl
  | .bl _, _, h => by rw [show _ = V.bl _ from h]; rfl
  | .int _, _, h => by rw [show _ = V.int _ from h]; rfl
  | .str _, _, h => by rw [show _ = V.str _ from h]; rfl
  | .tup _, _, ⟨a, _, e, _⟩ => by rw [e]; rfl
  | .lst _, _, ⟨a, _, e, _⟩ => by rw [e]; rfl
  | .dK _, _, ⟨a, _, e, _⟩ => by rw [e]; rfl
  | .dT _, _, ⟨a, _, e, _⟩ => by rw [e]; rfl
  | .ins _ _, _, ⟨a, _, _, e, _⟩ => by rw [e]; rfl
  | .scr _, _, ⟨a, e, _⟩ => by rw [e]; rfl
  | .stt, _, ⟨a, e, _⟩ => by rw [e]; rfl
section
variable {X : Cx} {z : Z}
theorem bd_isN : BinD X z (compareOp .Is) gIsN :=
  ⟨⟨_, op_isN, fun x y H Q Q' k ⟨e, q⟩ => ⟨e, k _ _ q⟩, ⟨fun {F σ H S x y d e k} r r1 r2 q => by
    cases e with
    | non => exact ⟨r2, F, .bl (isNon d), Ext.refl, r, by rw [isNon_v r1], q⟩
    | _ => exact q.elim⟩⟩⟩
theorem bd_notN : BinD X z (compareOp .IsNot) gNotN :=
  ⟨⟨_, op_notN, fun x y H Q Q' k ⟨e, q⟩ => ⟨e, k _ _ q⟩, ⟨fun {F σ H S x y d e k} r r1 r2 q => by
    cases e with
    | non => exact ⟨r2, F, .bl (!isNon d), Ext.refl, r, by rw [isNon_v r1], q⟩
    | _ => exact q.elim⟩⟩⟩
end
end DL

namespace DL
open PySem L2

mutual
def toP : D → PyData
  | .non => .none
  | .bl b => .bool b
  | .int i => .int i
  | .str s => .str s
  | .tup l => .tuple (toPs l)
  | .lst l => .list (toPs l)
  | _ => .none
def toPs : List D → List PyData
  | [] => []
  | d :: ds => toP d :: toPs ds
end
/-- comparable data: no bools, no dicts, no objects; so many levels -/
def eqOk : Nat → D → Prop
  | _, .non => True
  | _, .int _ => True
  | _, .str s => PySem.PyData.strOk s = true
  | n + 1, .tup l => ∀ d ∈ l, eqOk n d
  | n + 1, .lst l => ∀ d ∈ l, eqOk n d
  | _, _ => False
theorem toPs_map : ∀ l : List D, toPs l = l.map toP
  | [] => rfl
  | d :: ds => by rw [toPs, toPs_map ds]; rfl
mutual
theorem dp_of {n : Nm} {F H : Hp} (x : Ext n F H) : ∀ (d : D) (m : Nat) {v : V}, eqOk m d → Rp n F d v → Dp n.K H v (toP d)
  | .non, _, _, _, h => by rw [show _ = V.non from h]; exact .non
  | .int i, _, _, _, h => by rw [show _ = V.int i from h]; exact .int i
  | .str s, _, _, _, h => by rw [show _ = V.str s from h]; exact .str s
  | .tup l, m + 1, _, e, ⟨a, xs, ea, t, r⟩ => by
    subst ea
    exact .tup (SqT.of (x.at t rfl)) (dps_of x l m (by simpa [eqOk] using e) r)
  | .lst l, m + 1, _, e, ⟨a, xs, ea, t, r⟩ => by
    subst ea
    exact .lst (.inl (.inl (x.lst t))) (dps_of x l m (by simpa [eqOk] using e) r)
  | .tup l, 0, _, e, _ => by simp [eqOk] at e
  | .lst l, 0, _, e, _ => by simp [eqOk] at e
  | .bl _, m, _, e, _ => by cases m <;> simp [eqOk] at e
  | .dK _, m, _, e, _ => by cases m <;> simp [eqOk] at e
  | .dT _, m, _, e, _ => by cases m <;> simp [eqOk] at e
  | .ins _ _, m, _, e, _ => by cases m <;> simp [eqOk] at e
  | .scr _, m, _, e, _ => by cases m <;> simp [eqOk] at e
  | .stt, m, _, e, _ => by cases m <;> simp [eqOk] at e
theorem dps_of {n : Nm} {F H : Hp} (x : Ext n F H) : ∀ (l : List D) (m : Nat) {vs : List V}, (∀ d ∈ l, eqOk m d) → Rps n F l vs → DpAll n.K H vs (toPs l)
  | [], _, _, _, h => by rw [show _ = [] from h]; exact .nil
  | d :: ds, m, _, e, ⟨v, r, ev, h1, h2⟩ => by
    subst ev
    exact .cons (dp_of x d m (e d (by simp)) h1) (dps_of x ds m (fun d' h => e d' (by simp [h])) h2)
end
theorem dp_rv {n : Nm} {F H : Hp} (x : Ext n F H) : ∀ {d : D} {m : Nat} {v : V}, eqOk m d → Rv n F H d v → Dp n.K H v (toP d)
  | .lst l, m + 1, _, e, ⟨a, xs, ea, t, r⟩ => by
    subst ea
    exact .lst (.inl (.inl t)) (dps_of x l m (by simpa [eqOk] using e) r)
  | .lst l, 0, _, e, _ => by simp [eqOk] at e
  | .non, _, _, _, h => by rw [show _ = V.non from h]; exact .non
  | .int i, _, _, _, h => by rw [show _ = V.int i from h]; exact .int i
  | .str s, _, _, _, h => by rw [show _ = V.str s from h]; exact .str s
  | .tup l, m, _, e, h => dp_of x (.tup l) m e h
  | .bl _, m, _, e, _ => by cases m <;> simp [eqOk] at e
  | .dK _, m, _, e, _ => by cases m <;> simp [eqOk] at e
  | .dT _, m, _, e, _ => by cases m <;> simp [eqOk] at e
  | .ins _ _, m, _, e, _ => by cases m <;> simp [eqOk] at e
  | .scr _, m, _, e, _ => by cases m <;> simp [eqOk] at e
  | .stt, m, _, e, _ => by cases m <;> simp [eqOk] at e
theorem eqOk_shaped : ∀ {m : Nat} {d : D}, eqOk m d → (toP d).canLay0 = true ∧ (toP d).depth ≤ m
  | m, .non, _ => by simp [toP, PyData.canLay0, PyData.depth]
  | m, .int i, _ => by simp [toP, PyData.canLay0, PyData.depth]
  | m, .str s, h => by
    have e : PySem.PyData.strOk s = true := by cases m <;> simpa [eqOk] using h
    simp [toP, PyData.canLay0, PyData.depth, e]
  | m + 1, .tup l, h => by
    have e : ∀ d ∈ l, eqOk m d := by simpa [eqOk] using h
    have k : PyData.canLayAll0 (toPs l) = true ∧ PyData.depthAll (toPs l) ≤ m := by
      clear h
      induction l with
      | nil => simp [toPs, PyData.canLayAll0, PyData.depthAll]
      | cons d ds ih =>
        obtain ⟨a, b⟩ := ih fun d' q => e d' (by simp [q])
        obtain ⟨a1, b1⟩ := eqOk_shaped (e d (by simp))
        constructor
        · simp [toPs, PyData.canLayAll0, a, a1]
        · simp only [toPs, PyData.depthAll]; omega
    constructor
    · simpa [toP, PyData.canLay0] using k.1
    · simp only [toP, PyData.depth]; omega
  | m + 1, .lst l, h => by
    have e : ∀ d ∈ l, eqOk m d := by simpa [eqOk] using h
    have k : PyData.canLayAll0 (toPs l) = true ∧ PyData.depthAll (toPs l) ≤ m := by
      clear h
      induction l with
      | nil => simp [toPs, PyData.canLayAll0, PyData.depthAll]
      | cons d ds ih =>
        obtain ⟨a, b⟩ := ih fun d' q => e d' (by simp [q])
        obtain ⟨a1, b1⟩ := eqOk_shaped (e d (by simp))
        constructor
        · simp [toPs, PyData.canLayAll0, a, a1]
        · simp only [toPs, PyData.depthAll]; omega
    constructor
    · simpa [toP, PyData.canLay0] using k.1
    · simp only [toP, PyData.depth]; omega
  | 0, .tup l, e => by simp [eqOk] at e
  | 0, .lst l, e => by simp [eqOk] at e
  | m, .bl _, e => by cases m <;> simp [eqOk] at e
  | m, .dK _, e => by cases m <;> simp [eqOk] at e
  | m, .dT _, e => by cases m <;> simp [eqOk] at e
  | m, .ins _ _, e => by cases m <;> simp [eqOk] at e
  | m, .scr _, e => by cases m <;> simp [eqOk] at e
  | m, .stt, e => by cases m <;> simp [eqOk] at e
/-- equality as a bool -/
noncomputable def deq (d e : D) : Bool := @decide (d = e) (Classical.propDecidable _)
theorem deq_iff {d e : D} : deq d e = true ↔ d = e := by
  unfold deq; exact @decide_eq_true_iff _ (Classical.propDecidable _)
mutual
theorem eqv_deq : ∀ (d e : D) (m k : Nat), eqOk m d → eqOk k e → (PyData.eqv (toP d) (toP e) = true ↔ d = e)
  | .non, e, m, k, _, h => by
    cases e <;> first | (exfalso; cases k <;> (simp [eqOk] at h; done)) | simp [toP, PyData.eqv]
  | .int i, e, m, k, _, h => by
    cases e <;> first | (exfalso; cases k <;> (simp [eqOk] at h; done)) | simp [toP, PyData.eqv]
  | .str i, e, m, k, _, h => by
    cases e <;> first | (exfalso; cases k <;> (simp [eqOk] at h; done)) | simp [toP, PyData.eqv]
  | .tup l, e, m, k, hl, h => by
    cases e with
    | tup r =>
      cases m with
      | zero => simp [eqOk] at hl
      | succ m =>
        cases k with
        | zero => simp [eqOk] at h
        | succ k =>
          have q := eqvs_deq l r m k (by simpa [eqOk] using hl) (by simpa [eqOk] using h)
          simpa [toP, PyData.eqv] using q
    | _ => first | (exfalso; cases k <;> (simp [eqOk] at h; done)) | simp [toP, PyData.eqv]
  | .lst l, e, m, k, hl, h => by
    cases e with
    | lst r =>
      cases m with
      | zero => simp [eqOk] at hl
      | succ m =>
        cases k with
        | zero => simp [eqOk] at h
        | succ k =>
          have q := eqvs_deq l r m k (by simpa [eqOk] using hl) (by simpa [eqOk] using h)
          simpa [toP, PyData.eqv] using q
    | _ => first | (exfalso; cases k <;> (simp [eqOk] at h; done)) | simp [toP, PyData.eqv]
  | .bl _, _, m, _, e, _ => by cases m <;> simp [eqOk] at e
  | .dK _, _, m, _, e, _ => by cases m <;> simp [eqOk] at e
  | .dT _, _, m, _, e, _ => by cases m <;> simp [eqOk] at e
  | .ins _ _, _, m, _, e, _ => by cases m <;> simp [eqOk] at e
  | .scr _, _, m, _, e, _ => by cases m <;> simp [eqOk] at e
  | .stt, _, m, _, e, _ => by cases m <;> simp [eqOk] at e
theorem eqvs_deq : ∀ (l r : List D) (m k : Nat), (∀ d ∈ l, eqOk m d) → (∀ d ∈ r, eqOk k d) → (PyData.eqvAll (toPs l) (toPs r) = true ↔ l = r)
  | [], [], _, _, _, _ => by simp [toPs, PyData.eqvAll]
  | [], _ :: _, _, _, _, _ => by simp [toPs, PyData.eqvAll]
  | _ :: _, [], _, _, _, _ => by simp [toPs, PyData.eqvAll]
  | d :: ds, e :: es, m, k, h1, h2 => by
    have q1 := eqv_deq d e m k (h1 d (by simp)) (h2 e (by simp))
    have q2 := eqvs_deq ds es m k (fun d' h => h1 d' (by simp [h])) (fun d' h => h2 d' (by simp [h]))
    simp only [toPs, PyData.eqvAll, Bool.and_eq_true, q1, q2, List.cons.injEq]
end
theorem eqv_is {d e : D} {m k : Nat} (h1 : eqOk m d) (h2 : eqOk k e) : PyData.eqv (toP d) (toP e) = deq d e := by
  have q := eqv_deq d e m k h1 h2
  by_cases h : d = e
  · rw [q.mpr h, deq_iff.mpr h]
  · have a : PyData.eqv (toP d) (toP e) = false := by
      cases w : PyData.eqv (toP d) (toP e) with
      | false => rfl
      | true => exact absurd (q.mp w) h
    have b : deq d e = false := by
      cases w : deq d e with
      | false => rfl
      | true => exact absurd (deq_iff.mp w) h
    rw [a, b]
/-- what == may compare -/
@[reducible] def eqc (d e : D) : Prop := match d with
  | .bl _ => match e with
    | .bl _ => True
    | .non => True
    | _ => False
  | _ => eqOk 20 d ∧ eqOk 20 e
def gEq : G2 := fun d e k => eqc d e ∧ k (.bl (deq d e))
def gNe : G2 := fun d e k => eqc d e ∧ k (.bl (!deq d e))
theorem deq_ff {d e : D} (h : d ≠ e) : deq d e = false := by
  cases w : deq d e with
  | false => rfl
  | true => exact absurd (deq_iff.mp w) h
section
variable {X : Cx} {z : Z}
theorem sh_of {d : D} {m : Nat} (h : eqOk m d) (hm : m ≤ 64) : SeqAt.shaped (toP d) = true := by
  obtain ⟨a, b⟩ := eqOk_shaped h
  unfold SeqAt.shaped
  rw [a, Bool.true_and]
  exact decide_eq_true (by omega)
theorem bd_eq (hz : z.n.K = X.K) (hu : X.A.units + 64 < cLine) : BinD X z (compareOp .Eq) gEq :=
  ⟨⟨_, OpR.or op_eq (op_eqD hu), fun x y H Q Q' k h => by
    rcases h with ⟨a, q⟩ | ⟨d, e, h1, h2, h3, h4, q⟩
    · exact .inl ⟨a, k _ _ q⟩
    · exact .inr ⟨d, e, h1, h2, h3, h4, k _ _ q⟩, ⟨fun {F σ H S x y d e k} r r1 r2 ⟨c, q⟩ => by
    have main : eqOk 20 d ∧ eqOk 20 e → (rEqD X.K) x y H fun v H' => ∃ F' o, Ext z.n F F' ∧ Rep z F' σ H' S ∧ Rp z.n F' o v ∧ k o := fun ⟨c1, c2⟩ =>
      ⟨toP d, toP e, hz ▸ dp_rv r.ext c1 r1, hz ▸ dp_rv r.ext c2 r2, sh_of c1 (by decide), sh_of c2 (by decide), F, .bl (deq d e), Ext.refl, r, by rw [eqv_is c1 c2], q⟩
    cases d with
    | bl b =>
      cases e with
      | bl b' =>
        rw [show x = V.bl b from r1, show y = V.bl b' from r2]
        refine .inl ⟨rfl, F, .bl (deq (.bl b) (.bl b')), Ext.refl, r, ?_, q⟩
        by_cases h : b = b'
        · subst h
          rw [deq_iff.mpr rfl]
          exact congrArg V.bl (decide_eq_true rfl)
        · rw [deq_ff fun q => h (D.bl.inj q)]
          exact congrArg V.bl (decide_eq_false fun q => h (V.bl.inj q))
      | non =>
        rw [show x = V.bl b from r1, show y = V.non from r2]
        refine .inl ⟨rfl, F, .bl (deq (.bl b) .non), Ext.refl, r, ?_, q⟩
        rw [deq_ff fun q => by cases q]
        rfl
      | _ => exact c.elim
    | _ => exact .inr (main c)⟩⟩⟩
theorem bd_ne (hz : z.n.K = X.K) (hu : X.A.units + 64 < cLine) : BinD X z (compareOp .NotEq) gNe :=
  ⟨⟨_, OpR.or op_ne (op_neD hu), fun x y H Q Q' k h => by
    rcases h with ⟨a, q⟩ | ⟨d, e, h1, h2, h3, h4, q⟩
    · exact .inl ⟨a, k _ _ q⟩
    · exact .inr ⟨d, e, h1, h2, h3, h4, k _ _ q⟩, ⟨fun {F σ H S x y d e k} r r1 r2 ⟨c, q⟩ => by
    have main : eqOk 20 d ∧ eqOk 20 e → (rNeD X.K) x y H fun v H' => ∃ F' o, Ext z.n F F' ∧ Rep z F' σ H' S ∧ Rp z.n F' o v ∧ k o := fun ⟨c1, c2⟩ =>
      ⟨toP d, toP e, hz ▸ dp_rv r.ext c1 r1, hz ▸ dp_rv r.ext c2 r2, sh_of c1 (by decide), sh_of c2 (by decide), F, .bl (!deq d e), Ext.refl, r, by rw [eqv_is c1 c2], q⟩
    cases d with
    | bl b =>
      cases e with
      | bl b' =>
        rw [show x = V.bl b from r1, show y = V.bl b' from r2]
        refine .inl ⟨rfl, F, .bl (!deq (.bl b) (.bl b')), Ext.refl, r, ?_, q⟩
        by_cases h : b = b'
        · subst h
          rw [deq_iff.mpr rfl]
          exact congrArg (fun q => V.bl (!q)) (decide_eq_true rfl)
        · rw [deq_ff fun q => h (D.bl.inj q)]
          exact congrArg (fun q => V.bl (!q)) (decide_eq_false fun q => h (V.bl.inj q))
      | non =>
        rw [show x = V.bl b from r1, show y = V.non from r2]
        refine .inl ⟨rfl, F, .bl (!deq (.bl b) .non), Ext.refl, r, ?_, q⟩
        rw [deq_ff fun q => by cases q]
        rfl
      | _ => exact c.elim
    | _ => exact .inr (main c)⟩⟩⟩
end
end DL

namespace DL
open PySem L2

abbrev DV := SS → (List D → SS → Prop) → Prop
def PostV (z : Z) (F : Hp) (σ : L2.St) (R : List D → SS → Prop) : List V → Hp → Prop := fun vs H' => ∃ F' S' ds, Ext z.n F F' ∧ Rep z F' σ H' S' ∧ Rps z.n F' ds vs ∧ R ds S'
def tV (z : Z) (f : DV) : TA := fun σ H Q => ∃ F S R, Rep z F σ H S ∧ f S R ∧ ∀ vs H', PostV z F σ R vs H' → Q vs H'
def JV (X : Cx) (z : Z) (es : List Expr) (f : DV) : Prop := PA X es (tV z f)
def vNil : DV := fun S R => R [] S
def vCons (f : DE) (g : DV) : DV := fun S R => f S fun d S1 => g S1 fun ds S2 => R (d :: ds) S2
def aNil : DA := fun S R => R [] S
def aCons (f : DO) (g : DA) : DA := fun S R => f S fun d S1 => g S1 fun ds S2 => R (d :: ds) S2
section
variable {X : Cx} {z : Z} {e : Expr} {es : List Expr}
theorem JV.of {t : TA} {f : DV} (h : PA X es t) (s : ∀ F σ H S R, Rep z F σ H S → f S R → t σ H (PostV z F σ R)) : JV X z es f :=
  ⟨fun pos pins st σ H Q I ⟨F, S, R, r, hf, k⟩ => thn (h.run pos pins st σ H _ I (s F σ H S R r hf)) fun _ _ ⟨vs, H', I', r, q⟩ => ⟨vs, H', I', r, k _ _ q⟩⟩
theorem tV.use {F : Hp} {σ : L2.St} {H : Hp} {S : SS} {f : DV} {R : List D → SS → Prop} {Q : List V → Hp → Prop} (r : Rep z F σ H S) (h : f S R) (k : ∀ vs H' F' S' ds, Ext z.n F F' → Rep z F' σ H' S' → Rps z.n F' ds vs → R ds S' → Q vs H') : tV z f σ H Q :=
  ⟨F, S, R, r, h, fun v H' ⟨F', S', d, a, b, c, q⟩ => k v H' F' S' d a b c q⟩
theorem jv_nil : JV X z [] vNil := JV.of pa_nil fun F σ H S R r hf => ⟨F, S, [], Ext.refl, r, rfl, hf⟩
theorem jv_cons {f : DE} {g : DV} (h : JE X z e f) (k : JV X z es g) (hs : starEach (e :: es) X.env = (false, eval e X.env) :: starEach es X.env := by rfl) : JV X z (e :: es) (vCons f g) :=
  JV.of (pa_cons h k hs) fun F σ H S R r hf => tE.use r hf fun v H1 F1 S1 d x1 r1 h1 q => tV.use r1 q fun vs H2 F2 S2 ds x2 r2 h2 q2 => ⟨F2, S2, d :: ds, x1.trans x2, r2, ⟨v, vs, rfl, h1.mono x2, h2⟩, q2⟩
theorem ja_nil : JA X z [] aNil := JA.of pa_nil fun F σ H S R r hf => ⟨F, S, [], Ext.refl, r, rfl, hf⟩
theorem ja_cons {f : DO} {g : DA} (h : JO X z e f) (k : JA X z es g) (hs : starEach (e :: es) X.env = (false, eval e X.env) :: starEach es X.env := by rfl) : JA X z (e :: es) (aCons f g) :=
  JA.of (pa_cons h k hs) fun F σ H S R r hf => tO.use r hf fun v H1 F1 S1 d x1 r1 h1 q => tA.use r1 q fun vs H2 F2 S2 ds x2 r2 h2 q2 => ⟨F2, S2, d :: ds, x1.trans x2, r2, ⟨v, vs, rfl, h1.mono x2, h2⟩, q2⟩
end
def dTup (f : DV) : DE := fun S R => f S fun ds S' => ds.length ≤ sizeLine ∧ R (.tup ds) S'
def fLst (f : DV) : DF := fun S R => f S fun ds S' => ds.length ≤ sizeLine ∧ R (.lst ds) S'
/-- the new object is a value from now on -/
def dFrz (f : DF) : DE := fun S R => f S fun c S' => R c.d S'
/-- an object that is nobody's is changed -/
theorem Rep.poke {z : Z} {F : Hp} {σ : L2.St} {H : Hp} {S : SS} (r : Rep z F σ H S) {a : Addr} {o : HO} (f : F a = none) (n0 : z.H0 a = none) (ne : ∀ (i : Nat) (c : Ct), S[i]? = some (.own c) → σ[i]? ≠ some (some (.ref a))) : Rep z F σ (upd H a o) S where
  ext := fun b u e => by
    obtain ⟨u', e', l⟩ := r.ext b u e
    exact ⟨u', by rw [upd_ne (ne_of_none e f)]; exact e', l⟩
  keep := fun b u e p => by rw [upd_ne (ne_of_none e n0)]; exact r.keep b u e p
  new := r.new
  len := r.len
  sl := fun i s h => by
    have q := r.sl i s h
    cases s with
    | free => trivial
    | val d => exact q
    | own c =>
      obtain ⟨b, e1, f1, n1, c1⟩ := q
      have nb : b ≠ a := fun e => ne i c h (by rw [← e]; exact e1)
      exact ⟨b, e1, f1, n1, c1.mono Ext.refl fun o' h' _ => by rw [upd_ne nb]; exact h'⟩
    | slf c l =>
      obtain ⟨b, dx, fs, e1, p1, h1, ⟨fs0, f1⟩, q1⟩ := q
      exact ⟨b, dx, fs, e1, p1, by rw [upd_ne (ne_of_none f1 f)]; exact h1, ⟨fs0, f1⟩, q1⟩
  pin := r.pin
  pi0 := fun i b h => by
    obtain ⟨⟨o1, h1⟩, u, h2, h3⟩ := r.pi0 i b h
    exact ⟨⟨o1, h1⟩, u, by rw [upd_ne (fun q => by rw [q, n0] at h1; cases h1)]; exact h2, h3⟩
  pf := r.pf
  inj := r.inj
/-- .. and joins the known part: a list as it stands, a dict locked from now on -/
theorem Rep.joinF {z : Z} {F : Hp} {σ : L2.St} {H : Hp} {S : SS} {c : Ct} {a : Addr} (r : Rep z F σ H S) (fr : Fresh z σ F H S c a) {Q : Hp → Prop} (k : ∀ F' H', Ext z.n F F' → Rep z F' σ H' S → Rp z.n F' c.d (.ref a) → (∀ b, b ≠ a → F' b = F b) → Q H') :
    Q H ∨ ∃ u, H a = some u ∧ Mut (some u) ∧ ∀ ob, Q (upd H a (.frz ob u)) := by
  have lk : ∀ u ob, Rep z (upd F a (.frz ob u)) σ (upd H a (.frz ob u)) S := fun u ob => (r.poke (o := .frz ob u) fr.out fr.new fr.ne).join upd_same fr.out fr.new fr.ne
  cases c with
  | lst l =>
    obtain ⟨xs, e, q⟩ := fr.ct
    exact .inl (k (upd F a (.lst xs)) H (Ext.new fr.out) (r.join e fr.out fr.new fr.ne) ⟨a, xs, rfl, upd_same, q.mono (Ext.new fr.out)⟩ fun b h => upd_ne h)
  | dK l =>
    obtain ⟨xs, e, q⟩ := fr.ct
    exact .inr ⟨_, e, trivial, fun ob => k (upd F a (.frz ob (.dK xs))) _ (Ext.new fr.out) (lk _ ob) ⟨a, ob, xs, rfl, upd_same, q.mono (Ext.new fr.out)⟩ fun b h => upd_ne h⟩
  | dT l =>
    obtain ⟨xs, e, q⟩ := fr.ct
    exact .inr ⟨_, e, trivial, fun ob => k (upd F a (.frz ob (.dT xs))) _ (Ext.new fr.out) (lk _ ob) ⟨a, ob, xs, rfl, upd_same, q.mono (Ext.new fr.out)⟩ fun b h => upd_ne h⟩
/-- behind an expression its value may be locked -/
def tFr (t : TE) : TE := fun σ H Q => t σ H fun v H' => Q v H' ∨ ∃ a u, v = .ref a ∧ H' a = some u ∧ Mut (some u) ∧ ∀ ob, Q v (upd H' a (.frz ob u))
theorem pe_fr {X : Cx} {e : Expr} {t : TE} (h : PE X e t) : PE X e (tFr t) :=
  ⟨fun pins s σ H Q I hq => thn (h.run pins s σ H _ I hq) fun v s' ⟨x, H', I', r, q⟩ => by
    rcases q with q | ⟨a, u, e1, e2, m, q⟩
    · exact ⟨x, H', I', r, q⟩
    · obtain ⟨ob, I2⟩ := I'.lock e2 m
      exact ⟨x, _, I2, r, q ob⟩⟩
theorem Rep.frz {z : Z} {F : Hp} {σ : L2.St} {H : Hp} {S : SS} {c : Ct} {a : Addr} (r : Rep z F σ H S) (fr : Fresh z σ F H S c a) {Q : VK} (k : ∀ F' H', Ext z.n F F' → Rep z F' σ H' S → Rp z.n F' c.d (.ref a) → Q (.ref a) H') :
    Q (.ref a) H ∨ ∃ b u, V.ref a = .ref b ∧ H b = some u ∧ Mut (some u) ∧ ∀ ob, Q (.ref a) (upd H b (.frz ob u)) := by
  rcases r.joinF fr (Q := fun H' => Q (.ref a) H') fun F' H' x r' h _ => k F' H' x r' h with q | ⟨u, e, m, q⟩
  · exact .inl q
  · exact .inr ⟨a, u, rfl, e, m, q⟩
/-- a new list was laid: it is nobody's -/
theorem Rep.fresh {z : Z} {F : Hp} {σ : L2.St} {H : Hp} {S : SS} {c : Ct} {a : Addr} {o : HO} (r : Rep z F σ H S) (h : H a = none) (hc : CtOk z.n F (upd H a o) a c) : Rep z F σ (upd H a o) S ∧ Fresh z σ F (upd H a o) S c a := by
  refine ⟨r.layF o h, r.ext.free h, r.old h, hc, fun i c' hs e => ?_⟩
  obtain ⟨b, e1, _, _, c1⟩ := r.sl i _ hs
  rw [e] at e1; cases e1
  obtain ⟨o', ho, _⟩ := c1.ex
  rw [h] at ho; cases ho
section
variable {X : Cx} {z : Z} {e : Expr} {es : List Expr} {pos : Pos}
theorem je_tup {f : DV} {x1} (h : JV X z es f) : JE X z (.Tuple es x1 pos) (dTup f) := JE.of (pe_tup h) fun F σ H S R r hf => tV.use r hf fun vs H1 F1 S1 ds x1 r1 h1 ⟨hl, q⟩ =>
  ⟨by rw [h1.length]; exact hl, fun p hp => ⟨_, S1, .tup ds, x1.trans (Ext.new (r1.ext.free hp)), r1.lay _ hp, ⟨p, vs, rfl, upd_same, h1.mono (Ext.new (r1.ext.free hp))⟩, q⟩⟩
theorem jf_lst {f : DV} (h : JV X z es f) : JF X z (.List es pos) (fLst f) := JF.of (pe_lst h) fun F σ H S R r hf => tV.use r hf fun vs H1 F1 S1 ds x1 r1 h1 ⟨hl, q⟩ =>
  ⟨by rw [h1.length]; exact hl, fun p hp => by
    obtain ⟨r2, fr⟩ := r1.fresh (c := .lst ds) (o := .lst vs) hp ⟨vs, upd_same, h1⟩
    exact ⟨F1, S1, .lst ds, p, rfl, x1, r2, fr, q⟩⟩
theorem je_frz {f : DF} (h : JF X z e f) : JE X z e (dFrz f) := JE.of (pe_fr h) fun F σ H S R r hf => tF.use r hf fun a H1 F1 S1 c x1 r1 fr q =>
  r1.frz fr fun F2 H2 x2 r2 h2 => ⟨F2, S1, c.d, x1.trans x2, r2, h2, q⟩
end
@[reducible] def onSome {α : Type} (k : α → Prop) : Option α → Prop
  | some x => k x
  | none => False
theorem onSome.get {α : Type} {k : α → Prop} : ∀ {o : Option α}, onSome k o → ∃ x, o = some x ∧ k x
  | some x, h => ⟨x, rfl, h⟩
  | none, h => h.elim
def gIx : G2 := fun d e k => onI (fun i => match d with
  | .lst l => onSome k (atI l i)
  | .tup l => onSome k (atI l i)
  | .scr l => onSome (fun x => k (.int x)) (atI l i)
  | _ => False) e
theorem Rps.atI {n : Nm} {F : Hp} {l : List D} {vs : List V} {i : Int} {d : D} (h : Rps n F l vs) (e : atI l i = some d) : ∃ v, L2.atI vs i = some v ∧ Rp n F d v := by
  unfold L2.atI at e ⊢
  rw [h.length]
  cases q : ixN l.length i with
  | none => rw [q] at e; cases e
  | some j =>
    rw [q] at e
    exact h.get e
section
variable {X : Cx} {z : Z} {a b : Expr} {fa fb : DO} {pos : Pos}
theorem s2_ix (hz : z.n.K = X.K) : S2 z (rIx X.K) gIx := ⟨fun {F σ H S x y d e k} r r1 r2 q => by
  obtain ⟨i, rfl, q1⟩ := onI.get q
  cases d with
  | lst l =>
    obtain ⟨o, q0, q2⟩ := onSome.get q1
    obtain ⟨p, xs, rfl, h1, s1⟩ := r1
    obtain ⟨v, e1, h2⟩ := s1.atI q0
    exact .inl ⟨p, xs, i, v, rfl, r2, SqL.of h1, e1, F, o, Ext.refl, r, h2, q2⟩
  | tup l =>
    obtain ⟨o, q0, q2⟩ := onSome.get q1
    obtain ⟨p, xs, rfl, h1, s1⟩ := r1
    obtain ⟨v, e1, h2⟩ := s1.atI q0
    exact .inr (.inl ⟨p, xs, i, v, rfl, r2, SqT.of (r.ext.at h1 rfl), e1, F, o, Ext.refl, r, h2, q2⟩)
  | scr l =>
    obtain ⟨o, q0, q2⟩ := onSome.get q1
    obtain ⟨p, rfl, h1⟩ := r1
    refine .inl ⟨p, _, i, .int o, rfl, r2, r.ext.sqL (hz ▸ h1), ?_, F, .int o, Ext.refl, r, rfl, q2⟩
    unfold L2.atI at q0 ⊢
    rw [List.length_map]
    cases q3 : ixN l.length i with
    | none => rw [q3] at q0; cases q0
    | some j =>
      rw [q3] at q0
      show (l.map V.int)[j]? = _
      rw [List.getElem?_map, show l[j]? = some o from q0]; rfl
  | _ => exact q1.elim⟩
theorem mono_ix {K : PySem.W.Frag} : Mono2 (rIx K) := fun x y H Q Q' k h => by
  rcases h with ⟨p, xs, i, v, a, b, c, d, q⟩ | ⟨p, xs, i, v, a, b, c, d, q⟩ | ⟨s, i, v, a, b, c, d, q⟩
  · exact .inl ⟨p, xs, i, v, a, b, c, d, k _ _ q⟩
  · exact .inr (.inl ⟨p, xs, i, v, a, b, c, d, k _ _ q⟩)
  · exact .inr (.inr ⟨s, i, v, a, b, c, d, k _ _ q⟩)
theorem je_ix (hz : z.n.K = X.K) (ha : JO X z a fa) (hb : JO X z b fb) (hs : PlainIx b) : JE X z (.Subscript a b pos) (dBin gIx fa fb) :=
  JE.of (pe_ix ix_seq ha hb hs) fun F σ H S R rp hf => bin_use (s2_ix hz) mono_ix rp hf fun _ _ q => q
end
abbrev DP := SS → (Option Int → SS → Prop) → Prop
def tP (z : Z) (f : DP) : TO := fun σ H Q => ∃ F S R, Rep z F σ H S ∧ f S R ∧ ∀ o H', (∃ F' S', Ext z.n F F' ∧ Rep z F' σ H' S' ∧ R o S') → Q o H'
def JP (X : Cx) (z : Z) (e : Option Expr) (f : DP) : Prop := PO X e (tP z f)
def pNo : DP := fun S R => R none S
def pSome (f : DE) : DP := fun S R => f S fun d S' => onI (fun i => R (some i) S') d
/-- the items of l[lo:hi] -/
def cutD {α : Type} (l : List α) (lo hi : Option Int) : List α := (l.drop (HT.sIx l.length 0 lo)).take (HT.sIx l.length l.length hi - HT.sIx l.length 0 lo)
section
variable {X : Cx} {z : Z} {e : Expr} {lo hi : Option Expr}
theorem JP.of {t : TO} {f : DP} {e : Option Expr} (h : PO X e t) (s : ∀ F σ H S R, Rep z F σ H S → f S R → t σ H (fun o H' => ∃ F' S', Ext z.n F F' ∧ Rep z F' σ H' S' ∧ R o S')) : JP X z e f :=
  ⟨fun pins st σ H Q I ⟨F, S, R, r, hf, k⟩ => thn (h.run pins st σ H _ I (s F σ H S R r hf)) fun _ _ ⟨o, H', I', p, q⟩ => ⟨o, H', I', p, k _ _ q⟩⟩
theorem jp_no : JP X z none pNo := JP.of po_none fun F σ H S R r hf => ⟨F, S, Ext.refl, r, hf⟩
theorem jp_some {f : DE} (h : JE X z e f) : JP X z (some e) (pSome f) := JP.of (po_some h) fun F σ H S R r hf => tE.use r hf fun v H1 F1 S1 d x1 r1 h1 q => by
  obtain ⟨i, rfl, q⟩ := onI.get q
  exact ⟨i, h1, F1, S1, x1, r1, q⟩
theorem tP.use {F : Hp} {σ : L2.St} {H : Hp} {S : SS} {f : DP} {R : Option Int → SS → Prop} {Q : Option Int → Hp → Prop} (r : Rep z F σ H S) (h : f S R) (k : ∀ o H' F' S', Ext z.n F F' → Rep z F' σ H' S' → R o S' → Q o H') : tP z f σ H Q :=
  ⟨F, S, R, r, h, fun v H' ⟨F', S', a, b, q⟩ => k v H' F' S' a b q⟩
theorem Rps.cut {n : Nm} {F : Hp} {l : List D} {xs : List V} (h : Rps n F l xs) (lo hi : Option Int) : Rps n F (cutD l lo hi) (cutV xs lo hi) := by
  unfold cutD cutV
  rw [h.length]
  exact (h.drop _).take _
/-- l[lo:hi] of a list: a new list -/
def fSl (f : DO) (p q : DP) : DF := fun S R => f S fun a S1 => p S1 fun lo S2 => q S2 fun hi S3 => view S3 (fun d => match d with
  | .lst l => R (.lst (cutD l lo hi)) S3
  | .scr ns => R (.lst ((cutD ns lo hi).map D.int)) S3
  | _ => False) a
theorem cut_map {α β : Type} (f : α → β) (l : List α) (lo hi : Option Int) : (cutD l lo hi).map f = cutD (l.map f) lo hi := by
  unfold cutD
  rw [List.map_take, List.map_drop, List.length_map]
theorem jf_sl (hz : z.n.K = X.K) {fo : DO} {fl fh : DP} {p2 pos : Pos} (he : JO X z e fo) (hl : JP X z lo fl) (hh : JP X z hi fh) : JF X z (.Subscript e (.Slice lo hi none p2) pos) (fSl fo fl fh) :=
  JF.of (pe_slice sl_list he hl hh) fun F σ H S R r hf => tO.use r hf fun v H1 F1 S1 a x1 r1 h1 q1 => tP.use r1 q1 fun o1 H2 F2 S2 x2 r2 q2 => tP.use r2 q2 fun o2 H3 F3 S3 x3 r3 q3 => by
    obtain ⟨d, rv, q4⟩ := (h1.mono (x2.trans x3)).view r3 q3
    cases d with
    | lst l =>
      obtain ⟨p, xs, rfl, hp, s1⟩ := rv
      refine ⟨p, xs, rfl, SqL.of hp, fun p' hp' => ?_⟩
      obtain ⟨r4, fr⟩ := r3.fresh (c := .lst (cutD l o1 o2)) (o := .lst (cutV xs o1 o2)) hp' ⟨_, upd_same, s1.cut o1 o2⟩
      exact ⟨F3, S3, _, p', rfl, (x1.trans x2).trans x3, r4, fr, q4⟩
    | scr ns =>
      obtain ⟨p, rfl, hp⟩ := rv
      refine ⟨p, _, rfl, r3.ext.sqL (hz ▸ hp), fun p' hp' => ?_⟩
      obtain ⟨r4, fr⟩ := r3.fresh (c := .lst ((cutD ns o1 o2).map D.int)) (o := .lst (cutV (ns.map V.int) o1 o2)) hp' ⟨_, upd_same, by
        show Rps z.n F3 ((cutD ns o1 o2).map D.int) (cutD (ns.map V.int) o1 o2)
        rw [← cut_map]
        exact Rps.of_ints _⟩
      exact ⟨F3, S3, _, p', rfl, (x1.trans x2).trans x3, r4, fr, q4⟩
    | _ => exact q4.elim
/-- t[lo:hi] of a tuple -/
def dSlT (f : DO) (p q : DP) : DE := fun S R => f S fun a S1 => p S1 fun lo S2 => q S2 fun hi S3 => view S3 (onT fun l => R (.tup (cutD l lo hi)) S3) a
theorem cut_whole {α : Type} {l : List α} {lo hi : Option Int} (h : HT.sIx l.length 0 lo = 0 ∧ HT.sIx l.length l.length hi = l.length) : cutD l lo hi = l := by
  unfold cutD
  rw [h.1, h.2]; simp
theorem je_slT (hz : z.n.K = X.K) {fo : DO} {fl fh : DP} {p2 pos : Pos} (he : JO X z e fo) (hl : JP X z lo fl) (hh : JP X z hi fh) : JE X z (.Subscript e (.Slice lo hi none p2) pos) (dSlT fo fl fh) :=
  JE.of (pe_slice sl_tupA he hl hh) fun F σ H S R r hf => tO.use r hf fun v H1 F1 S1 a x1 r1 h1 q1 => tP.use r1 q1 fun o1 H2 F2 S2 x2 r2 q2 => tP.use r2 q2 fun o2 H3 F3 S3 x3 r3 q3 => by
    obtain ⟨d, rv, q4⟩ := (h1.mono (x2.trans x3)).view r3 q3
    obtain ⟨l, rfl, q5⟩ := onT.get q4
    obtain ⟨p, xs, rfl, hp, s1⟩ := rv
    refine ⟨p, xs, rfl, SqT.of (r3.ext.at hp rfl), fun hw => ?_, fun hw p' hp' => ?_⟩
    · rw [s1.length] at hw
      refine ⟨F3, S3, .tup (cutD l o1 o2), (x1.trans x2).trans x3, r3, ?_, q5⟩
      rw [cut_whole hw]
      exact ⟨p, xs, rfl, hp, s1⟩
    · exact ⟨_, S3, .tup (cutD l o1 o2), ((x1.trans x2).trans x3).trans (Ext.new (r3.ext.free hp')), r3.lay _ hp', ⟨p', _, rfl, upd_same, (s1.cut o1 o2).mono (Ext.new (r3.ext.free hp'))⟩, q5⟩
end
abbrev GN := List D → (D → Prop) → Prop
/-- the operands as data -/
@[reducible] def views (S : SS) : List Arg → (List D → Prop) → Prop
  | [], k => k []
  | a :: as, k => view S (fun d => views S as fun ds => k (d :: ds)) a
def dCB (g : GN) (f : DA) : DE := fun S R => f S fun as S' => views S' as fun ds => g ds fun o => R o S'
@[reducible] def Rvs (n : Nm) (F H : Hp) : List D → List V → Prop
  | [], vs => vs = []
  | d :: ds, vs => ∃ v r, vs = v :: r ∧ Rv n F H d v ∧ Rvs n F H ds r
theorem AOks.views {z : Z} {F : Hp} {σ : L2.St} {H : Hp} {S : SS} (r : Rep z F σ H S) : ∀ {as : List Arg} {vs : List V} {k : List D → Prop}, AOks z.n F σ as vs → DL.views S as k → ∃ ds, Rvs z.n F H ds vs ∧ k ds
  | [], _, k, h, q => ⟨[], h, q⟩
  | a :: as, _, k, ⟨v, rr, e, h1, h2⟩, q => by
    obtain ⟨d, rv, q1⟩ := h1.view r q
    obtain ⟨ds, rvs, q2⟩ := AOks.views r h2 q1
    exact ⟨d :: ds, ⟨v, rr, e, rv, rvs⟩, q2⟩
structure CallD (X : Cx) (z : Z) (f : Value) (g : GN) : Prop where
  ex : ∃ r, CallR X f r ∧ ∀ {F σ H S vs ds} {R : D → SS → Prop}, Rep z F σ H S → Rvs z.n F H ds vs → g ds (fun o => R o S) → r vs H (PostE z F σ R)
theorem PostE.up {z : Z} {F F1 : Hp} {σ : L2.St} {R : D → SS → Prop} (x : Ext z.n F F1) {v : V} {H' : Hp} (h : PostE z F1 σ R v H') : PostE z F σ R v H' := by
  obtain ⟨F', S', d, x', r', h', q⟩ := h
  exact ⟨F', S', d, x.trans x', r', h', q⟩
/-- the same where a rule is not known to be monotone: the wish is fixed first -/
theorem CallD.run {X : Cx} {z : Z} {f : Value} {g : GN} (h : CallD X z f g) : CallR X f (fun vs H Q => ∃ F σ S ds R, Rep z F σ H S ∧ Rvs z.n F H ds vs ∧ g ds (fun o => R o S) ∧ ∀ v H', PostE z F σ R v H' → Q v H') := by
  obtain ⟨r, hc, s⟩ := h.ex
  intro pins st σ H xs us Q I vs ⟨F, σ', S, ds, R, rp, rv, q, k⟩
  exact thn (hc pins st σ H xs us _ I vs (s rp rv q)) fun _ _ q => EP.up q k
section
variable {X : Cx} {z : Z} {x : Str} {p pos : Pos} {e : Expr} {es : List Expr} {f : DA} {g : GN} {id T : String}
theorem cb_use {F : Hp} {σ : L2.St} {H : Hp} {S : SS} {R : D → SS → Prop} (rp : Rep z F σ H S) (hf : dCB g f S R) :
    tCB (fun vs H Q => ∃ F σ S ds R, Rep z F σ H S ∧ Rvs z.n F H ds vs ∧ g ds (fun o => R o S) ∧ ∀ v H', PostE z F σ R v H' → Q v H') (tA z f) σ H (PostE z F σ R) :=
  tA.use rp hf fun vs H1 F1 S1 as x1 r1 h1 q => by
    obtain ⟨ds, rv, q1⟩ := h1.views r1 q
    exact ⟨F1, σ, S1, ds, R, r1, rv, q1, fun v H' h => h.up x1⟩
theorem je_callB (hc : CallD X z (.builtin id) g) (hg : Gl X x) (hm : X.mg x = none) (hv : bootBuiltins x = some (.builtin id)) (ha : JA X z (e :: es) f) (hn : x ≠ "__name__" := by decide) (hdb : (x == ("__debug__" : Str)) = false := by decide)
    (he : starEach (e :: es) X.env = (false, eval e X.env) :: starEach es X.env := by rfl) (hpl : (backTo pos (starEach es X.env)).any (·.1) = false := by rfl) : JE X z (.Call (.Name x p) (e :: es) [] pos) (dCB g f) :=
  JE.of (pe_callB hc.run hg hm hv ha hn hdb he hpl) fun F σ H S R rp hf => cb_use rp hf
theorem je_callTy (hc : CallD X z (.type T) g) (hg : Gl X x) (hm : X.mg x = none) (hv : bootBuiltins x = some (.type T)) (ha : JA X z (e :: es) f) (hn : x ≠ "__name__" := by decide) (hdb : (x == ("__debug__" : Str)) = false := by decide)
    (he : starEach (e :: es) X.env = (false, eval e X.env) :: starEach es X.env := by rfl) (hpl : (backTo pos (starEach es X.env)).any (·.1) = false := by rfl) : JE X z (.Call (.Name x p) (e :: es) [] pos) (dCB g f) :=
  JE.of (pe_callTy hc.run hg hm hv ha hn hdb he hpl) fun F σ H S R rp hf => cb_use rp hf
end
theorem Rvs.one {n : Nm} {F H : Hp} {d : D} {vs : List V} (h : Rvs n F H [d] vs) : ∃ v, vs = [v] ∧ Rv n F H d v := by
  obtain ⟨v, r, rfl, h1, h2⟩ := h
  rw [show r = [] from h2]
  exact ⟨v, rfl, h1⟩
theorem Rvs.two {n : Nm} {F H : Hp} {d e : D} {vs : List V} (h : Rvs n F H [d, e] vs) : ∃ v w, vs = [v, w] ∧ Rv n F H d v ∧ Rv n F H e w := by
  obtain ⟨v, r, rfl, h1, h2⟩ := h
  obtain ⟨w, rfl, h3⟩ := Rvs.one h2
  exact ⟨v, w, rfl, h1, h3⟩
@[reducible] def on1 (k : D → Prop) : List D → Prop
  | [d] => k d
  | _ => False
@[reducible] def on2 (k : D → D → Prop) : List D → Prop
  | [d, e] => k d e
  | _ => False
theorem on1.get {k : D → Prop} : ∀ {l : List D}, on1 k l → ∃ d, l = [d] ∧ k d
  | [d], h => ⟨d, rfl, h⟩
  | [], h => h.elim
  | _ :: _ :: _, h => h.elim
theorem on2.get {k : D → D → Prop} : ∀ {l : List D}, on2 k l → ∃ d e, l = [d, e] ∧ k d e
  | [d, e], h => ⟨d, e, rfl, h⟩
  | [], h => h.elim
  | [_], h => h.elim
  | _ :: _ :: _ :: _, h => h.elim
def gLen : GN := fun ds k => on1 (fun d => match d with
  | .lst l => k (.int l.length)
  | .tup l => k (.int l.length)
  | .scr l => k (.int l.length)
  | _ => False) ds
def gAbs : GN := fun ds k => on1 (onI fun i => k (.int (if i < 0 then -i else i))) ds
def gMax2 : GN := fun ds k => on2 (fun d e => onI (fun i => onI (fun j => k (.int (if j > i then j else i))) e) d) ds
def gMin2 : GN := fun ds k => on2 (fun d e => onI (fun i => onI (fun j => k (.int (if j < i then j else i))) e) d) ds
def gInt : GN := fun ds k => on1 (fun d => match d with
  | .int i => k (.int i)
  | .bl b => k (.int (if b then 1 else 0))
  | _ => False) ds
section
variable {X : Cx} {z : Z}
theorem cd_len (hz : z.n.K = X.K) : CallD X z (.builtin "len") gLen := ⟨⟨_, call_len_seq, fun {F σ H S vs ds R} r rv q => by
  obtain ⟨d, rfl, q0⟩ := on1.get q
  obtain ⟨v, rfl, w1⟩ := rv.one
  cases d with
  | lst l =>
    obtain ⟨a, xs, rfl, h1, s1⟩ := w1
    exact ⟨a, xs, rfl, .inl (SqL.of h1), F, S, _, Ext.refl, r, by rw [s1.length], q0⟩
  | tup l =>
    obtain ⟨a, xs, rfl, h1, s1⟩ := w1
    exact ⟨a, xs, rfl, .inr (SqT.of (r.ext.at h1 rfl)), F, S, _, Ext.refl, r, by rw [s1.length], q0⟩
  | scr l =>
    obtain ⟨a, rfl, h1⟩ := w1
    exact ⟨a, _, rfl, .inl (r.ext.sqL (hz ▸ h1)), F, S, _, Ext.refl, r, by rw [List.length_map], q0⟩
  | _ => exact q0.elim⟩⟩
theorem cd_abs : CallD X z (.builtin "abs") gAbs := ⟨⟨_, call_abs, fun {F σ H S vs ds R} r rv q => by
  obtain ⟨d, rfl, q0⟩ := on1.get q
  obtain ⟨v, rfl, w1⟩ := rv.one
  obtain ⟨i, rfl, q9⟩ := onI.get q0
  rw [show v = .int i from w1]
  exact ⟨i, rfl, F, S, _, Ext.refl, r, rfl, q9⟩⟩⟩
theorem cd_max2 (hc : X.calm = true) : CallD X z (.builtin "max") gMax2 := ⟨⟨_, call_max2 hc, fun {F σ H S vs ds R} r rv q => by
  obtain ⟨d, e, rfl, q0⟩ := on2.get q
  obtain ⟨v, w, rfl, w1, w2⟩ := rv.two
  obtain ⟨i, rfl, q1⟩ := onI.get q0
  obtain ⟨j, rfl, q2⟩ := onI.get q1
  rw [show v = .int i from w1, show w = .int j from w2]
  exact ⟨i, j, rfl, F, S, _, Ext.refl, r, rfl, q2⟩⟩⟩
theorem cd_min2 (hc : X.calm = true) : CallD X z (.builtin "min") gMin2 := ⟨⟨_, call_min2 hc, fun {F σ H S vs ds R} r rv q => by
  obtain ⟨d, e, rfl, q0⟩ := on2.get q
  obtain ⟨v, w, rfl, w1, w2⟩ := rv.two
  obtain ⟨i, rfl, q1⟩ := onI.get q0
  obtain ⟨j, rfl, q2⟩ := onI.get q1
  rw [show v = .int i from w1, show w = .int j from w2]
  exact ⟨i, j, rfl, F, S, _, Ext.refl, r, rfl, q2⟩⟩⟩
theorem cd_int : CallD X z (.type "int") gInt := ⟨⟨_, call_int1, fun {F σ H S vs ds R} r rv q => by
  obtain ⟨d, rfl, q0⟩ := on1.get q
  obtain ⟨v, rfl, w1⟩ := rv.one
  cases d with
  | int i =>
    rw [show v = .int i from w1]
    exact .inl ⟨i, rfl, F, S, _, Ext.refl, r, rfl, q0⟩
  | bl b =>
    rw [show v = .bl b from w1]
    exact .inr ⟨b, rfl, F, S, _, Ext.refl, r, rfl, q0⟩
  | _ => exact q0.elim⟩⟩
end
end DL

namespace DL
open PySem L2

inductive Rs where
  | val (d : D) | own (c : Ct) | two (d : D) (l : List D)
@[reducible] def Rs.d : Rs → D
  | .val d => d
  | .own c => c.d
  | .two d l => .tup [d, .lst l]
structure DEnds where
  nx : SS → Prop
  rt : Rs → SS → Prop
  bk : SS → Prop := fun _ => False
  ct : SS → Prop := fun _ => False
abbrev DS := DEnds → SS → Prop
def PostS (z : Z) (F : Hp) (q : SS → Prop) : L2.St → Hp → Prop := fun σ' H' => ∃ F' S', Ext z.n F F' ∧ Rep z F' σ' H' S' ∧ q S'
def RsOk (z : Z) (F' : Hp) (σ' : L2.St) (H' : Hp) (S' : SS) (v : V) : Rs → Prop
  | .val d => Rp z.n F' d v
  | .own c => ∃ a, v = .ref a ∧ Fresh z σ' F' H' S' c a
  | .two d l => ∃ a b v1, v = .ref a ∧ H' a = some (.tup [v1, .ref b]) ∧ F' a = none ∧ Rp z.n F' d v1 ∧ Fresh z σ' F' H' S' (.lst l) b
def PostR (z : Z) (F : Hp) (q : Rs → SS → Prop) : VK := fun v H' => ∃ F' σ' S' r, Ext z.n F F' ∧ Rep z F' σ' H' S' ∧ RsOk z F' σ' H' S' v r ∧ q r S'
def endsOf (z : Z) (F : Hp) (E : DEnds) : Ends := { nx := PostS z F E.nx, rt := PostR z F E.rt, bk := PostS z F E.bk, ct := PostS z F E.ct }
structure EndsLe (z : Z) (F : Hp) (E : DEnds) (E0 : Ends) : Prop where
  nx : ∀ σ' H', PostS z F E.nx σ' H' → E0.nx σ' H'
  rt : ∀ v H', PostR z F E.rt v H' → E0.rt v H'
  bk : ∀ σ' H', PostS z F E.bk σ' H' → E0.bk σ' H'
  ct : ∀ σ' H', PostS z F E.ct σ' H' → E0.ct σ' H'
def tS (z : Z) (f : DS) : TS := fun E0 σ H => ∃ F S E, Rep z F σ H S ∧ f E S ∧ EndsLe z F E E0
def JS (X : Cx) (z : Z) (st : Stmt) (f : DS) : Prop := PS X st (tS z f)
def JB (X : Cx) (z : Z) (st : List Stmt) (f : DS) : Prop := PSs X st (tS z f)
section
variable {z : Z} {F F1 : Hp}
theorem PostS.up {q : SS → Prop} {σ : L2.St} {H : Hp} (x : Ext z.n F F1) (h : PostS z F1 q σ H) : PostS z F q σ H := by
  obtain ⟨F', S', x', r, k⟩ := h
  exact ⟨F', S', x.trans x', r, k⟩
theorem PostR.up {q : Rs → SS → Prop} {v : V} {H : Hp} (x : Ext z.n F F1) (h : PostR z F1 q v H) : PostR z F q v H := by
  obtain ⟨F', σ', S', r, x', rp, k⟩ := h
  exact ⟨F', σ', S', r, x.trans x', rp, k⟩
theorem EndsLe.refl {E : DEnds} : EndsLe z F E (endsOf z F E) := ⟨fun _ _ h => h, fun _ _ h => h, fun _ _ h => h, fun _ _ h => h⟩
theorem EndsLe.up {E : DEnds} (x : Ext z.n F F1) : EndsLe z F1 E (endsOf z F E) := ⟨fun _ _ h => h.up x, fun _ _ h => h.up x, fun _ _ h => h.up x, fun _ _ h => h.up x⟩
end
section
variable {X : Cx} {z : Z} {st : Stmt} {sts : List Stmt}
theorem SP.up {pins : List (Addr × Obj)} {E0 E1 : Ends} {f : Flow} {s : Shared} (h : SP X pins E0 f s) (a : ∀ σ H, E0.nx σ H → E1.nx σ H) (b : ∀ v H, E0.rt v H → E1.rt v H) (c : ∀ σ H, E0.bk σ H → E1.bk σ H) (d : ∀ σ H, E0.ct σ H → E1.ct σ H) : SP X pins E1 f s := by
  cases f with
  | next => obtain ⟨σ', H', I, q⟩ := h; exact ⟨σ', H', I, a _ _ q⟩
  | brk => obtain ⟨σ', H', I, q⟩ := h; exact ⟨σ', H', I, c _ _ q⟩
  | cont => obtain ⟨σ', H', I, q⟩ := h; exact ⟨σ', H', I, d _ _ q⟩
  | ret u => obtain ⟨v, σ', H', I, r, q⟩ := h; exact ⟨v, σ', H', I, r, b _ _ q⟩
theorem JS.of {t : TS} {f : DS} (h : PS X st t) (s : ∀ F σ H S E, Rep z F σ H S → f E S → t (endsOf z F E) σ H) : JS X z st f :=
  ⟨fun pins s0 σ H D I ⟨F, S, E, r, hf, k⟩ => thn (h.run pins s0 σ H _ I (s F σ H S E r hf)) fun _ _ q => SP.up q k.nx k.rt k.bk k.ct⟩
theorem JB.of {t : TS} {f : DS} (h : PSs X sts t) (s : ∀ F σ H S E, Rep z F σ H S → f E S → t (endsOf z F E) σ H) : JB X z sts f :=
  ⟨fun pins s0 σ H D I ⟨F, S, E, r, hf, k⟩ => thn (h.run pins s0 σ H _ I (s F σ H S E r hf)) fun _ _ q => SP.up q k.nx k.rt k.bk k.ct⟩
end
def dNil : DS := fun E S => E.nx S
def dSeq (a b : DS) : DS := fun E S => a { nx := fun S' => b E S', rt := E.rt, bk := E.bk, ct := E.ct } S
def dNever : DS := fun _ _ => False
def dBrk : DS := fun E S => E.bk S
def dCnt : DS := fun E S => E.ct S
def dDrop (f : DE) : DS := fun E S => f S fun _ S' => E.nx S'
def dRet (f : DE) : DS := fun E S => f S fun d S' => E.rt (.val d) S'
def dRetF (f : DF) : DS := fun E S => f S fun c S' => E.rt (.own c) S'
def dRetN : DS := fun E S => E.rt (.val .non) S
def dRetOwn (i : Nat) : DS := fun E S => match getS S i with
  | .own c => E.rt (.own c) (setS S i .free)
  | _ => False
def dIte (t : DT) (a b : DS) : DS := fun E S => t S fun k S1 => (k = true → a E S1) ∧ (k = false → b E S1)
section
variable {X : Cx} {z : Z} {st : Stmt} {rest : List Stmt} {a b : DS} {e : Expr} {pos : Pos}
theorem jb_nil : JB X z [] dNil := JB.of pss_nil fun F σ H S E r hf => ⟨F, S, Ext.refl, r, hf⟩
theorem jb_cons (h1 : JS X z st a) (h2 : JB X z rest b) : JB X z (st :: rest) (dSeq a b) := JB.of (pss_cons h1 h2) fun F σ H S E r hf =>
  ⟨F, S, _, r, hf, ⟨fun σ' H' ⟨F', S', x, r', q⟩ => ⟨F', S', E, r', q, EndsLe.up x⟩, fun _ _ h => h, fun _ _ h => h, fun _ _ h => h⟩⟩
theorem jb_one (h : JS X z st a) : JB X z [st] a := pss_one h
theorem js_pass : JS X z (.Pass pos) dNil := JS.of ps_pass fun F σ H S E r hf => ⟨F, S, Ext.refl, r, hf⟩
theorem js_brk : JS X z (.Break pos) dBrk := JS.of ps_break fun F σ H S E r hf => ⟨F, S, Ext.refl, r, hf⟩
theorem js_cnt : JS X z (.Continue pos) dCnt := JS.of ps_continue fun F σ H S E r hf => ⟨F, S, Ext.refl, r, hf⟩
theorem js_never : JS X z st dNever := JS.of ps_never fun F σ H S E r hf => hf
theorem js_drop {f : DE} (h : JE X z e f) (hs : swapsWith e none pos.line X.env = pure false := by rfl) : JS X z (.Expr e pos) (dDrop f) :=
  JS.of (ps_expr h hs) fun F σ H S E r hf => tE.use r hf fun v H' F' S' d x r' h' q => ⟨F', S', x, r', q⟩
theorem js_ret {f : DE} (h : JE X z e f) : JS X z (.Return (some e) pos) (dRet f) :=
  JS.of (ps_ret h) fun F σ H S E r hf => tE.use r hf fun v H' F' S' d x r' h' q => ⟨F', σ, S', .val d, x, r', h', q⟩
theorem js_retN : JS X z (.Return none pos) dRetN :=
  JS.of ps_retN fun F σ H S E r hf => ⟨F, σ, S, .val .non, Ext.refl, r, rfl, hf⟩
theorem js_retF {f : DF} (h : JF X z e f) : JS X z (.Return (some e) pos) (dRetF f) :=
  JS.of (ps_ret h) fun F σ H S E r hf => tF.use r hf fun a H' F' S' c x r' h' q => ⟨F', σ, S', .own c, x, r', ⟨a, rfl, h'⟩, q⟩
theorem js_ite {c : Expr} {xs ys : List Stmt} {t : DT} (hc : JT X z c t) (ha : JB X z xs a) (hb : JB X z ys b) : JS X z (.If c xs ys pos) (dIte t a b) :=
  JS.of (ps_if hc ha hb) fun F σ H S E r hf => tT.use r hf fun k H' F' S' x r' q => by
    cases k with
    | true => exact iteT ⟨F', S', E, r', q.1 rfl, EndsLe.up x⟩
    | false => exact iteF ⟨F', S', E, r', q.2 rfl, EndsLe.up x⟩
end
section
variable {z : Z} {F : Hp} {σ : L2.St} {H : Hp} {S : SS} {i : Nat}
theorem st_set {σ : L2.St} {i j : Nat} {o : Option V} : (σ.set i o)[j]? = if i = j then (if i < σ.length then some o else none) else σ[j]? := by
  rw [List.getElem?_set]
theorem Rep.setSlot (r : Rep z F σ H S) (p : z.pr i = none) (v : V) (s : Slot) (hs : i < σ.length → SlotOk z F (σ.set i (some v)) H i s)
    (ho : ∀ c, s = .own c → ∃ a, v = .ref a ∧ ∀ (j : Nat) (c' : Ct), j ≠ i → S[j]? = some (.own c') → σ[j]? ≠ some (some (.ref a))) : Rep z F (σ.set i (some v)) H (setS S i s) where
  ext := r.ext
  keep := r.keep
  new := r.new
  len := by rw [List.length_set, setS_len, r.len]
  sl := fun j t h => by
    rcases setS_get h with ⟨rfl, rfl⟩ | ⟨ne, h⟩
    · refine hs ?_
      obtain ⟨h1, _⟩ := List.getElem?_eq_some_iff.mp h
      rw [setS_len] at h1
      rw [r.len]; exact h1
    · have q := r.sl j t h
      cases t with
      | free => trivial
      | val d =>
        obtain ⟨w, e1, h1⟩ := q
        exact ⟨w, by rw [st_set, if_neg (fun e => ne e.symm)]; exact e1, h1⟩
      | own c =>
        obtain ⟨a, e1, h1⟩ := q
        exact ⟨a, by rw [st_set, if_neg (fun e => ne e.symm)]; exact e1, h1⟩
      | slf c l =>
        obtain ⟨a, dx, fs, e1, h1⟩ := q
        exact ⟨a, dx, fs, by rw [st_set, if_neg (fun e => ne e.symm)]; exact e1, h1⟩
  pin := fun j a h => by
    have ne : ¬ i = j := fun e => by subst e; rw [p] at h; cases h
    rw [st_set, if_neg ne]; exact r.pin j a h
  pi0 := r.pi0
  pf := r.pf
  inj := fun j k c c' a hj hk ej ek => by
    rcases setS_get hj with ⟨rfl, e⟩ | ⟨ne, hj'⟩
    · rcases setS_get hk with ⟨rfl, e'⟩ | ⟨ne', hk'⟩
      · rfl
      · exfalso
        obtain ⟨b, rfl, q⟩ := ho c e.symm
        rw [st_set, if_pos rfl] at ej
        split at ej
        · cases ej
          rw [st_set, if_neg (fun e => ne' e.symm)] at ek
          exact q k c' ne' hk' ek
        · cases ej
    · rcases setS_get hk with ⟨rfl, e'⟩ | ⟨ne', hk'⟩
      · exfalso
        obtain ⟨b, rfl, q⟩ := ho c' e'.symm
        rw [st_set, if_pos rfl] at ek
        split at ek
        · cases ek
          rw [st_set, if_neg (fun e => ne e.symm)] at ej
          exact q j c ne hj' ej
        · cases ek
      · rw [st_set, if_neg (fun e => ne e.symm)] at ej
        rw [st_set, if_neg (fun e => ne' e.symm)] at ek
        exact r.inj j k c c' a hj' hk' ej ek
theorem Rep.setVal (r : Rep z F σ H S) (p : z.pr i = none) {v : V} {d : D} (h : Rp z.n F d v) : Rep z F (σ.set i (some v)) H (setS S i (.val d)) :=
  r.setSlot p v _ (fun hl => ⟨v, by rw [st_set, if_pos rfl, if_pos hl], h⟩) fun c e => by cases e
theorem Rep.setOwn (r : Rep z F σ H S) (p : z.pr i = none) {a : Addr} {c : Ct} (h : Fresh z σ F H S c a) : Rep z F (σ.set i (some (.ref a))) H (setS S i (.own c)) :=
  r.setSlot p _ _ (fun hl => ⟨a, by rw [st_set, if_pos rfl, if_pos hl], h.out, .inl h.new, h.ct⟩) fun c' e => ⟨a, rfl, fun j c'' _ hj => h.ne j c'' hj⟩
/-- a slot is given up -/
theorem Rep.setFree (r : Rep z F σ H S) : Rep z F σ H (setS S i .free) where
  ext := r.ext
  keep := r.keep
  new := r.new
  len := by rw [setS_len, r.len]
  sl := fun j t h => by
    rcases setS_get h with ⟨rfl, rfl⟩ | ⟨ne, h⟩
    · trivial
    · exact r.sl j t h
  pin := r.pin
  pi0 := r.pi0
  pf := r.pf
  inj := fun j k c c' a hj hk ej ek => by
    rcases setS_get hj with ⟨rfl, e⟩ | ⟨ne, hj'⟩
    · cases e
    · rcases setS_get hk with ⟨rfl, e'⟩ | ⟨ne', hk'⟩
      · cases e'
      · exact r.inj j k c c' a hj' hk' ej ek
/-- an owned object's content is changed -/
theorem Rep.write (r : Rep z F σ H S) {c c' : Ct} {a : Addr} {o : HO} (g : S[i]? = some (.own c)) (ha : σ[i]? = some (some (.ref a))) (h : CtOk z.n F (upd H a o) a c') : Rep z F σ (upd H a o) (setS S i (.own c')) := by
  obtain ⟨a', e1, f1, n1, c1⟩ := r.sl i _ g
  rw [ha] at e1; cases e1
  obtain ⟨o0, h0, _⟩ := c1.ex
  have kp : ∀ b u, b ≠ a → H b = some u → (upd H a o) b = some u := fun b u n e => by rw [upd_ne n]; exact e
  refine ⟨fun b u e => ?_, fun b u e p => ?_, r.new, by rw [setS_len, r.len], fun j t hj => ?_, r.pin, fun j b hb => ?_, r.pf, fun j k c1 c2 b hj hk ej ek => ?_⟩
  · obtain ⟨u', e', l⟩ := r.ext b u e
    refine ⟨u', kp b u' (fun q => ?_) e', l⟩
    subst q; rw [f1] at e; cases e
  · refine kp b u (fun q => ?_) (r.keep b u e p)
    subst q
    rcases n1 with n1 | n1
    · rw [n1] at e; cases e
    · exact p i n1
  · rcases setS_get hj with ⟨rfl, rfl⟩ | ⟨ne, hj'⟩
    · exact ⟨a, ha, f1, n1, h⟩
    · have q := r.sl j t hj'
      cases t with
      | free => trivial
      | val d => exact q
      | own c2 =>
        obtain ⟨b, e2, f2, n2, c2'⟩ := q
        have nb : b ≠ a := fun e => ne (r.inj j i c2 c b hj' g e2 (by rw [e]; exact ha))
        exact ⟨b, e2, f2, n2, c2'.mono Ext.refl fun o' h' _ => kp b o' nb h'⟩
      | slf k l =>
        obtain ⟨b, dx, fs, e2, p2, h2, ⟨fs0, f2⟩, x2, g2⟩ := q
        have nb : b ≠ a := fun e => by subst e; rw [f1] at f2; cases f2
        exact ⟨b, dx, fs, e2, p2, kp b _ nb h2, ⟨fs0, f2⟩, x2, g2⟩
  · obtain ⟨h1, u, h2, h3⟩ := r.pi0 j b hb
    refine ⟨h1, ?_⟩
    by_cases q : b = a
    · subst q
      obtain ⟨o', e', _, nt⟩ := h.ex
      exact ⟨o', e', nt⟩
    · exact ⟨u, kp b u q h2, h3⟩
  · have hj' : ∃ c1', S[j]? = some (.own c1') := by
      rcases setS_get hj with ⟨rfl, e⟩ | ⟨ne, hj'⟩
      · exact ⟨c, g⟩
      · exact ⟨c1, hj'⟩
    have hk' : ∃ c1', S[k]? = some (.own c1') := by
      rcases setS_get hk with ⟨rfl, e⟩ | ⟨ne, hk'⟩
      · exact ⟨c, g⟩
      · exact ⟨c2, hk'⟩
    obtain ⟨c1', hj'⟩ := hj'
    obtain ⟨c2', hk'⟩ := hk'
    exact r.inj j k c1' c2' b hj' hk' ej ek
end
abbrev DG := D → SS → (SS → Prop) → Prop
abbrev DGs := List D → SS → (SS → Prop) → Prop
def tG (z : Z) (g : DG) : TG := fun v σ H Q => ∃ F S d R, Rep z F σ H S ∧ Rp z.n F d v ∧ g d S R ∧ ∀ σ' H', PostS z F R σ' H' → Q σ' H'
def tGs (z : Z) (g : DGs) : TGs := fun vs σ H Q => ∃ F S ds R, Rep z F σ H S ∧ Rps z.n F ds vs ∧ g ds S R ∧ ∀ σ' H', PostS z F R σ' H' → Q σ' H'
def JG (X : Cx) (z : Z) (t : Expr) (g : DG) : Prop := PG X t (tG z g)
def JGs (X : Cx) (z : Z) (ts : List Expr) (g : DGs) : Prop := PGs X ts (tGs z g)
def gN (i : Nat) : DG := fun d S R => R (setS S i (.val d))
def gT (n : Nat) (g : DGs) : DG := fun d S R => onT (fun l => l.length = n ∧ g l S R) d
def gsNil : DGs := fun l S R => match l with
  | [] => R S
  | _ => False
def gsCons (g : DG) (h : DGs) : DGs := fun l S R => match l with
  | d :: r => g d S fun S' => h r S' R
  | [] => False
def dAsg (f : DE) (g : DG) : DS := fun E S => f S fun d S' => g d S' E.nx
def dAsgF (i : Nat) (f : DF) : DS := fun E S => f S fun c S' => E.nx (setS S' i (.own c))
def dPar (i j : Nat) (f : DV) : DS := fun E S => f S fun ds S' => match ds with
  | [d, e] => E.nx (setS (setS S' i (.val d)) j (.val e))
  | _ => False
def dAug (i : Nat) (g : G2) (f : DE) : DS := fun E S => match getS S i with
  | .val d => f S fun e S1 => g d e fun o => E.nx (setS S1 i (.val o))
  | _ => False
section
variable {X : Cx} {z : Z} {t : Expr} {ts : List Expr} {e : Expr} {pos : Pos}
theorem JG.of {tt : TG} {g : DG} (h : PG X t tt) (s : ∀ F σ H S d v R, Rep z F σ H S → Rp z.n F d v → g d S R → tt v σ H (PostS z F R)) : JG X z t g :=
  ⟨fun pins s0 σ H v u Q I rv ⟨F, S, d, R, r, hd, hg, k⟩ => thn (h.run pins s0 σ H v u _ I rv (s F σ H S d v R r hd hg)) fun _ _ ⟨σ', H', I', q⟩ => ⟨σ', H', I', k _ _ q⟩⟩
theorem JGs.of {tt : TGs} {g : DGs} (h : PGs X ts tt) (s : ∀ F σ H S ds vs R, Rep z F σ H S → Rps z.n F ds vs → g ds S R → tt vs σ H (PostS z F R)) : JGs X z ts g :=
  ⟨fun pins s0 σ H v u Q I rv ⟨F, S, d, R, r, hd, hg, k⟩ => thn (h.run pins s0 σ H v u _ I rv (s F σ H S d v R r hd hg)) fun _ _ ⟨σ', H', I', q⟩ => ⟨σ', H', I', k _ _ q⟩⟩
theorem tG.use {F : Hp} {σ : L2.St} {H : Hp} {S : SS} {g : DG} {d : D} {v : V} {R : SS → Prop} {Q : L2.St → Hp → Prop} (r : Rep z F σ H S) (h : Rp z.n F d v) (q : g d S R) (k : ∀ σ' H' F' S', Ext z.n F F' → Rep z F' σ' H' S' → R S' → Q σ' H') : tG z g v σ H Q :=
  ⟨F, S, d, R, r, h, q, fun σ' H' ⟨F', S', x, r', q'⟩ => k σ' H' F' S' x r' q'⟩
theorem jg_name {i : Nat} (h : PG X t (gName i)) (p : z.pr i = none) : JG X z t (gN i) := JG.of h fun F σ H S d v R r hd q => ⟨F, _, Ext.refl, r.setVal p hd, q⟩
theorem jgs_nil : JGs X z [] gsNil := JGs.of pgs_nil fun F σ H S ds vs R r hd q => by
  cases ds with
  | nil => exact ⟨hd, F, S, Ext.refl, r, q⟩
  | cons d ds => exact q.elim
theorem jgs_cons {g : DG} {h : DGs} (h1 : JG X z t g) (h2 : JGs X z ts h) (hs : (assignEach (t :: ts) X.env).map (·.2) = assign t X.env :: (assignEach ts X.env).map (·.2) := by rfl) : JGs X z (t :: ts) (gsCons g h) :=
  JGs.of (pgs_cons h1 h2 hs) fun F σ H S ds vs R r hd q => by
    cases ds with
    | nil => exact q.elim
    | cons d ds =>
      obtain ⟨v, rr, rfl, k1, k2⟩ := hd
      exact ⟨v, rr, rfl, tG.use r k1 q fun σ' H' F' S' x r' q' => ⟨F', S', ds, R, r', k2.mono x, q', fun σ2 H2 h => h.up x⟩⟩
theorem jg_tup (hz : z.n.K = X.K) {es : List Expr} {k n : Nat} {g : DGs} (hc : X.calm = true) (h : JGs X z es g) (hn : (assignEach es X.env).length = n := by rfl) (hst : (assignEach es X.env).findIdx? (·.1) = none := by rfl) : JG X z (.Tuple es k pos) (gT n g) :=
  JG.of (pg_tup hc h hn hst) fun F σ H S d v R r hd q => by
    obtain ⟨l, rfl, hl, q1⟩ := onT.get q
    obtain ⟨a, xs, rfl, h1, s1⟩ := hd
    exact ⟨a, xs, rfl, SqT.of (r.ext.at h1 rfl), by rw [s1.length]; exact hl, F, S, l, R, r, s1, q1, fun _ _ h => h⟩
theorem js_asg {f : DE} {g : DG} (he : JE X z e f) (hg : JG X z t g) (hs : swapsWithSole [t] e pos.line X.env = pure false := by rfl) (hw : swappedStores [t] e X.env = pure none := by rfl)
    (h1 : (assignEach [t] X.env).map (·.2) = [assign t X.env] := by rfl) : JS X z (.Assign [t] e pos) (dAsg f g) :=
  JS.of (ps_asg he hg hs hw h1) fun F σ H S E r hf => tE.use r hf fun v H1 F1 S1 d x1 r1 h1 q => tG.use r1 h1 q fun σ' H' F' S' x r' q' => ⟨F', S', x1.trans x, r', q'⟩
/-- name = a new object: the name owns it -/
theorem js_asgF {f : DF} {i : Nat} (he : JF X z e f) (hg : PG X t (gName i)) (p : z.pr i = none) (hs : swapsWithSole [t] e pos.line X.env = pure false := by rfl) (hw : swappedStores [t] e X.env = pure none := by rfl)
    (h1 : (assignEach [t] X.env).map (·.2) = [assign t X.env] := by rfl) : JS X z (.Assign [t] e pos) (dAsgF i f) :=
  JS.of (ps_asg he hg hs hw h1) fun F σ H S E r hf => tF.use r hf fun a H1 F1 S1 c x1 r1 fr q => ⟨F1, _, x1, r1.setOwn p fr, q⟩
theorem Rps.two {n : Nm} {F : Hp} {d e : D} {vs : List V} (h : Rps n F [d, e] vs) : ∃ v w, vs = [v, w] ∧ Rp n F d v ∧ Rp n F e w := by
  obtain ⟨v, r, rfl, h1, w, r2, rfl, h2, e3⟩ := h
  rw [show r2 = [] from e3]
  exact ⟨v, w, rfl, h1, h2⟩
theorem js_par {i j : Nat} {x y : Str} {a b : Expr} {f : DV} {px py pt : Pos} {kt k2 pt2} (hc : X.calm = true) (hN : X.N.Nodup) (hi : X.N[i]? = some x) (hj : X.N[j]? = some y) (hij : i ≠ j)
    (hx : X.env.scope.names.lookup x = some .local) (hy : X.env.scope.names.lookup y = some .local) (pi : z.pr i = none) (pj : z.pr j = none) (ha : JV X z [a, b] f)
    (hw : swappedStores [.Tuple [.Name x px, .Name y py] kt pt] (.Tuple [a, b] k2 pt2) X.env = pure (some [x, y]) := by rfl)
    (hs : swapsWithSole [.Tuple [.Name x px, .Name y py] kt pt] (.Tuple [a, b] k2 pt2) pos.line X.env = pure false := by rfl) :
    JS X z (.Assign [.Tuple [.Name x px, .Name y py] kt pt] (.Tuple [a, b] k2 pt2) pos) (dPar i j f) :=
  JS.of (ps_par hc hN hi hj hij hx hy ha hw hs) fun F σ H S E r hf => tV.use r hf fun vs H1 F1 S1 ds x1 r1 h1 q => by
    match ds, q, h1 with
    | [d, e], q, h1 =>
      obtain ⟨v, w, rfl, h2, h3⟩ := h1.two
      exact ⟨v, w, rfl, F1, _, x1, (r1.setVal pi h2).setVal pj h3, q⟩
theorem js_aug {i : Nat} {x : Str} {op : Operator} {g : G2} {tip : TIp} {f : DE} {pos' : Pos} (hN : X.N.Nodup) (hi : X.N[i]? = some x) (hx : Loc X.env.scope x) (p : z.pr i = none) (he : JE X z e f) (ho : PIp X op tip)
    (hg : ∀ {F σ H S v w d e'} {k : D → Prop}, Rep z F σ H S → Rp z.n F d v → Rp z.n F e' w → g d e' k → tip v w H fun u H' => ∃ o, H' = H ∧ Rp z.n F o u ∧ k o) (hm : ∀ v w H Q Q', (∀ u H', Q u H' → Q' u H') → tip v w H Q → tip v w H Q')
    (hf : X.fn x = true ∨ X.env.scope.names.lookup x = some .local := by first | exact .inl rfl | exact .inr rfl | assumption) : JS X z (.AugAssign (.Name x pos') op e pos) (dAug i g f) :=
  JS.of (ps_aug hN hi hx he ho hf) fun F σ H S E r hf => by
    dsimp only [dAug] at hf
    cases q : getS S i with
    | val d =>
      rw [q] at hf
      obtain ⟨v, e1, hd⟩ := r.sl i _ (getS_some q (by intro x; cases x))
      refine ⟨v, e1, tE.use r hf fun w H1 F1 S1 e' x1 r1 h1 q1 => ?_⟩
      refine hm _ _ _ _ _ (fun u H' ⟨o, eH, ho, ko⟩ => ?_) (hg r1 (hd.mono x1) h1 q1)
      subst eH
      exact ⟨F1, _, x1, r1.setVal p ho, ko⟩
    | free => rw [q] at hf; exact hf.elim
    | own c => rw [q] at hf; exact hf.elim
    | slf c l => rw [q] at hf; exact hf.elim
end
end DL

namespace DL
open PySem L2

theorem getS_lt : ∀ {S : SS} {i : Nat} {s : Slot}, S[i]? = some s → getS S i = s
  | [], _, _, h => by cases h
  | _ :: _, 0, _, h => by
    have := Option.some.inj h
    exact this
  | _ :: r, i + 1, _, h => getS_lt (S := r) (i := i) (by simpa using h)
@[reducible] def onOwnL (k : List D → Prop) : Slot → Prop
  | .own (.lst l) => k l
  | _ => False
theorem onOwnL.get {k : List D → Prop} : ∀ {s : Slot}, onOwnL k s → ∃ l, s = .own (.lst l) ∧ k l
  | .own (.lst l), h => ⟨l, rfl, h⟩
  | .own (.dK _), h => h.elim
  | .own (.dT _), h => h.elim
  | .free, h => h.elim
  | .val _, h => h.elim
  | .slf _ _, h => h.elim
/-- x[i] = v of an owned list in slot i -/
def gSetL (i : Nat) (fk : DE) : DG := fun d S R => onOwnL (fun _ => fk S fun e S1 => onI (fun k => onOwnL (fun l => onSome (fun j => R (setS S1 i (.own (.lst (l.set j d))))) (ixN l.length k)) (getS S1 i)) e) (getS S i)
/-- a method of an owned list: x.m(a): the content ahead, the operand's value, the content behind -/
def dOwn (i : Nat) (f : DV) (g : List D → List D → (List D → Prop) → Prop) : DS := fun E S => onOwnL (fun _ => f S fun ds S1 => onOwnL (fun l => g l ds fun l' => E.nx (setS S1 i (.own (.lst l')))) (getS S1 i)) (getS S i)
def mAppend : List D → List D → (List D → Prop) → Prop := fun l ds k => match ds with
  | [d] => l.length < sizeLine ∧ k (l ++ [d])
  | _ => False
def mInsert : List D → List D → (List D → Prop) → Prop := fun l ds k => match ds with
  | [e, d] => onI (fun i => l.length < sizeLine ∧ 0 ≤ i ∧ i < 2 ^ 63 ∧ k (l.take i.toNat ++ [d] ++ l.drop i.toNat)) e
  | _ => False
def mExtend : List D → List D → (List D → Prop) → Prop := fun l ds k => match ds with
  | [d] => onL (fun m => l.length + m.length ≤ sizeLine ∧ k (l ++ m)) d
  | _ => False
structure OwnM (X : Cx) (z : Z) (id : String) (g : List D → List D → (List D → Prop) → Prop) : Prop where
  ex : ∃ r, MtR X id r ∧ ∀ {F σ H S a xs l ds vs} {k : List D → Prop} {Q : VK}, Rep z F σ H S → H a = some (.lst xs) → Rps z.n F l xs → Rps z.n F ds vs → g l ds k →
    (∀ xs' l', Rps z.n F l' xs' → k l' → Q .non (upd H a (.lst xs'))) → r (.ref a) vs H Q
section
variable {X : Cx} {z : Z} {e o : Expr} {es : List Expr} {pos : Pos}
theorem jg_setL {i : Nat} {fk : DE} (ho : PE X o (tVar i)) (hk : JE X z e fk)
    (ha : ∀ v, assign (.Subscript o e pos) X.env v = (do
      let ov ← holding [v] (eval o X.env)
      let iv ← holding [v, ov] (eval e X.env)
      standAt pos
      holding [v, ov, iv] (setItem ov iv v)
      release [v, ov, iv] []) := by intro _; rfl) : JG X z (.Subscript o e pos) (gSetL i fk) :=
  JG.of (pg_sub ho hk set_list ha) fun F σ H S d v R r hd q => by
    obtain ⟨l0, g0, q1⟩ := onOwnL.get q
    have g1 := getS_some g0 (by intro x; cases x)
    obtain ⟨a, e1, f1, n1, c1⟩ := r.sl i _ g1
    refine ⟨.ref a, e1, tE.use r q1 fun w H1 F1 S1 d1 x1 r1 h1 q2 => ?_⟩
    obtain ⟨k, rfl, q3⟩ := onI.get q2
    obtain ⟨l, g2, q4⟩ := onOwnL.get q3
    obtain ⟨j, g3, q5⟩ := onSome.get q4
    have g4 := getS_some g2 (by intro x; cases x)
    obtain ⟨a', e2, f2, n2, c2⟩ := r1.sl i _ g4
    rw [e1] at e2; cases e2
    obtain ⟨xs, h2, s2⟩ := c2
    refine ⟨a, xs, k, j, rfl, h1, h2, by rw [s2.length]; exact g3, ?_⟩
    exact ⟨F1, _, x1, r1.write (c' := .lst (l.set j d)) g4 e1 ⟨_, upd_same, s2.set j (hd.mono x1)⟩, q5⟩
theorem js_own {id : String} {name : Str} {apos cpos : Pos} {i : Nat} {f : DV} {g : List D → List D → (List D → Prop) → Prop} (hm : OwnM X z id g) (pa : PlainAttrs "list") (slot : PySem.Slot "list" name id) (hty : typeOf (.builtin id) = pure (.type "method_descriptor")) (ho : PE X o (tVar i)) (ha : JV X z (e :: es) f)
    (hbase : attributeBase o name X.env (eval o X.env) = eval o X.env := by rfl)
    (hfew : ((backTo cpos (starEach (e :: es) X.env)).all (fun x => !x.1) && (backToKw cpos (keywordEach [] X.env)).all (fun x => x.1.isSome)
      && decide ((e :: es).length + ([] : List Keyword).length + (if ([] : List Keyword).isEmpty then 0 else 1) < 30)) = true := by rfl)
    (hline : (apos.endLine == cpos.line) = true := by rfl) (hs : starEach (e :: es) X.env = (false, eval e X.env) :: starEach es X.env := by rfl) (hplain : (backTo cpos (starEach es X.env)).any (·.1) = false := by rfl) :
    JS X z (.Expr (.Call (.Attribute o name apos) (e :: es) [] cpos) pos) (dOwn i f g) := by
  obtain ⟨r, mt, sr⟩ := hm.ex
  refine JS.of (ps_expr (pe_bm pa slot hty mt ho ha hbase hfew hline hs hplain)) fun F σ H S E rp hf => ?_
  obtain ⟨l0, g0, q1⟩ := onOwnL.get hf
  have g1 := getS_some g0 (by intro x; cases x)
  obtain ⟨a, e1, f1, n1, c1⟩ := rp.sl i _ g1
  obtain ⟨xs0, h0, s0⟩ := c1
  refine ⟨.ref a, e1, .inl ⟨rfl, xs0, SqL.of h0⟩, tV.use rp q1 fun vs H1 F1 S1 ds x1 r1 h1 q2 => ?_⟩
  obtain ⟨l, g2, q3⟩ := onOwnL.get q2
  have g3 := getS_some g2 (by intro x; cases x)
  obtain ⟨a', e2, f2, n2, c2⟩ := r1.sl i _ g3
  rw [e1] at e2; cases e2
  obtain ⟨xs, h2, s2⟩ := c2
  exact sr r1 h2 s2 h1 q3 fun xs' l' s' q' => ⟨F1, _, x1, r1.write (c' := .lst l') g3 e1 ⟨_, upd_same, s'⟩, q'⟩
theorem om_append : OwnM X z "list.append" mAppend := ⟨⟨_, mt_append, fun {F σ H S a xs l ds vs k Q} r h s1 s2 q c => by
  match ds, q, s2 with
  | [d], ⟨hl, q⟩, ⟨v, r0, e, hv, e2⟩ =>
    rw [show r0 = [] from e2] at e
    exact ⟨a, xs, v, rfl, e, h, by rw [s1.length]; exact hl, c _ _ (s1.append (Rps.one hv)) q⟩⟩⟩
theorem om_insert : OwnM X z "list.insert" mInsert := ⟨⟨_, mt_insert, fun {F σ H S a xs l ds vs k Q} r h s1 s2 q c => by
  match ds, q, s2 with
  | [e, d], q, s2 =>
    obtain ⟨v, w, rfl, h1, h2⟩ := s2.two
    obtain ⟨i, rfl, hl, h3, h4, q1⟩ := onI.get q
    exact ⟨a, xs, i, w, rfl, by rw [show v = .int i from h1], h, by rw [s1.length]; exact hl, h3, h4, c _ _ (((s1.take _).append (Rps.one h2)).append (s1.drop _)) q1⟩⟩⟩
theorem om_extend : OwnM X z "list.extend" mExtend := ⟨⟨_, mt_extend, fun {F σ H S a xs l ds vs k Q} r h s1 s2 q c => by
  match ds, q, s2 with
  | [d], q, ⟨v, r0, e, hv, e2⟩ =>
    rw [show r0 = [] from e2] at e
    obtain ⟨m, rfl, hl, q1⟩ := onL.get q
    obtain ⟨b, ys, rfl, h1, s3⟩ := hv
    exact ⟨a, b, xs, ys, rfl, e, h, r.ext.lst h1, by rw [s1.length, s3.length]; exact hl, c _ _ (s1.append s3) q1⟩⟩⟩
end
structure ItOk (n : Nm) (J : It) (F : Hp) (l : List D) : Prop where
  go : ∀ F1 H1 i, Ext n F F1 → Ext n F1 H1 → i < l.length → J.go i H1
  yld : ∀ F1 H1 i x H2, Ext n F F1 → Ext n F1 H1 → J.yld i H1 x H2 → i < l.length → ∃ d F2, l[i]? = some d ∧ Ext n F1 F2 ∧ Ext n F2 H2 ∧ (∀ a o, F2 a = some o → Nw F1 H1 a o) ∧ (∀ a o, H1 a = some o → H2 a = some o) ∧ Rp n F2 d x
  stop : ∀ F1 H1 i, Ext n F F1 → Ext n F1 H1 → l.length ≤ i → J.stop i H1
abbrev DI := SS → (List D → SS → Prop) → Prop
def tI (z : Z) (w : DI) : TI := fun σ H R => ∃ F S Rw, Rep z F σ H S ∧ w S Rw ∧ ∀ J H', (∃ F' S' l, Ext z.n F F' ∧ Rep z F' σ H' S' ∧ ItOk z.n J F' l ∧ Rw l S') → R J H'
def JI (X : Cx) (z : Z) (tg it : Expr) (w : DI) : Prop := PI X tg it (tI z w)
theorem JI.of {X : Cx} {z : Z} {tg it : Expr} {t : TI} {w : DI} (h : PI X tg it t) (s : ∀ F σ H S Rw, Rep z F σ H S → w S Rw → t σ H fun J H' => ∃ F' S' l, Ext z.n F F' ∧ Rep z F' σ H' S' ∧ ItOk z.n J F' l ∧ Rw l S') : JI X z tg it w :=
  ⟨fun pins st σ H R I ⟨F, S, Rw, r, hf, k⟩ => thn (h.run pins st σ H _ I (s F σ H S Rw r hf)) fun v s1 q => thn q fun _ _ ⟨it, fp, tn, J, H', a, b, c, d, e, q'⟩ => ⟨it, fp, tn, J, H', a, b, c, d, e, k J H' q'⟩⟩
@[reducible] def onLs (k : List D → Prop) : D → Prop
  | .lst l => k l
  | .tup l => k l
  | .scr ns => k (ns.map D.int)
  | _ => False
def wL (f : DE) : DI := fun S R => f S fun d S' => match d with
  | .lst l => R l S'
  | .scr ns => R (ns.map D.int) S'
  | _ => False
def wT (f : DE) : DI := fun S R => f S fun d S' => onT (fun l => R l S') d
def rng (lo : Int) (n : Nat) : List D := (List.range n).map fun (i : Nat) => D.int (lo + (i : Int))
def wR1 (f : DE) : DI := fun S R => f S fun d S' => onI (fun j => -(2 ^ 62) ≤ j ∧ j < 2 ^ 62 ∧ R (rng 0 j.toNat) S') d
def wR2 (f g : DE) : DI := fun S R => f S fun d S1 => g S1 fun e S2 => onI (fun i => onI (fun j => (-(2 ^ 62) ≤ i ∧ i < 2 ^ 62 ∧ -(2 ^ 62) ≤ j ∧ j < 2 ^ 62) ∧ R (rng i (j - i).toNat) S2) e) d
section
variable {X : Cx} {z : Z} {tg e a b : Expr}
theorem itl_ok {n : Nm} {F : Hp} {p : Addr} {xs : List V} {l : List D} (h : SqL n.K F p xs) (s : Rps n F l xs) (inj : ∀ F1 H1 ys, Ext n F F1 → Ext n F1 H1 → SqL n.K H1 p ys → ys = xs → True) : ItOk n (Itl n.K p) F l where
  go := fun F1 H1 i x1 x2 hi => by
    have hi' : i < xs.length := by rw [s.length]; exact hi
    exact ⟨xs, xs[i], x2.sqL (x1.sqL h), List.getElem?_eq_getElem hi'⟩
  yld := fun F1 H1 i v H2 x1 x2 ⟨e, q⟩ hi => by
    subst e
    have q1 := q xs (x2.sqL (x1.sqL h))
    obtain ⟨d, e1, h1⟩ := s.getV q1
    exact ⟨d, F1, e1, Ext.refl, x2, fun a o h => .inl ⟨o, h⟩, fun a o h => h, h1.mono x1⟩
  stop := fun F1 H1 i x1 x2 hi => ⟨xs, x2.sqL (x1.sqL h), by rw [s.length]; exact hi⟩
theorem itt_ok {n : Nm} {F : Hp} {p : Addr} {xs : List V} {l : List D} (h : SqT n.K F p xs) (s : Rps n F l xs) : ItOk n (Itt n.K p) F l where
  go := fun F1 H1 i x1 x2 hi => by
    have hi' : i < xs.length := by rw [s.length]; exact hi
    exact ⟨xs, xs[i], x2.sqT (x1.sqT h), List.getElem?_eq_getElem hi'⟩
  yld := fun F1 H1 i v H2 x1 x2 ⟨e, q⟩ hi => by
    subst e
    have q1 := q xs (x2.sqT (x1.sqT h))
    obtain ⟨d, e1, h1⟩ := s.getV q1
    exact ⟨d, F1, e1, Ext.refl, x2, fun a o h => .inl ⟨o, h⟩, fun a o h => h, h1.mono x1⟩
  stop := fun F1 H1 i x1 x2 hi => ⟨xs, x2.sqT (x1.sqT h), by rw [s.length]; exact hi⟩
theorem itr_ok {n : Nm} {F : Hp} {lo : Int} {m : Nat} : ItOk n (Itr lo m) F (rng lo m) where
  go := fun F1 H1 i x1 x2 hi => by
    have : i < m := by simpa [rng] using hi
    exact this
  yld := fun F1 H1 i v H2 x1 x2 ⟨e, q⟩ hi => by
    subst e
    have hi' : i < m := by simpa [rng] using hi
    refine ⟨.int (lo + i), F1, ?_, Ext.refl, x2, fun a o h => .inl ⟨o, h⟩, fun a o h => h, q⟩
    simp [rng, hi']
  stop := fun F1 H1 i x1 x2 hi => by
    have : m ≤ i := by simpa [rng] using hi
    exact this
theorem ji_list (hz : z.n.K = X.K) {f : DE} (h : JE X z e f) : JI X z tg e (wL f) := JI.of (pi_list h) fun F σ H S Rw r hf => tE.use r hf fun v H1 F1 S1 d x1 r1 h1 q => by
  cases d with
  | lst l =>
    obtain ⟨p, xs, rfl, hp, s1⟩ := h1
    refine ⟨p, rfl, ⟨xs, SqL.of (r1.ext.lst hp)⟩, F1, S1, l, x1, r1, ?_, q⟩
    rw [← hz]
    exact itl_ok (SqL.of hp) s1 fun _ _ _ _ _ _ _ => trivial
  | scr ns =>
    obtain ⟨p, rfl, hp⟩ := h1
    refine ⟨p, rfl, ⟨_, r1.ext.sqL (hz ▸ hp)⟩, F1, S1, ns.map D.int, x1, r1, ?_, q⟩
    rw [← hz]
    exact itl_ok hp (Rps.of_ints ns) fun _ _ _ _ _ _ _ => trivial
  | _ => exact q.elim
theorem ji_tup (hz : z.n.K = X.K) {f : DE} (h : JE X z e f) : JI X z tg e (wT f) := JI.of (pi_tup h) fun F σ H S Rw r hf => tE.use r hf fun v H1 F1 S1 d x1 r1 h1 q => by
  obtain ⟨l, rfl, q1⟩ := onT.get q
  obtain ⟨p, xs, rfl, hp, s1⟩ := h1
  refine ⟨p, rfl, ⟨xs, SqT.of (r1.ext.at hp rfl)⟩, F1, S1, l, x1, r1, ?_, q1⟩
  rw [← hz]
  exact itt_ok (SqT.of hp) s1
theorem ji_range1 {p pos : Pos} {f : DE} (hg : Gl X "range") (hm : X.mg "range" = none) (h : JE X z a f) (hs : starEach [a] X.env = [(false, eval a X.env)] := by rfl) : JI X z tg (.Call (.Name "range" p) [a] [] pos) (wR1 f) :=
  JI.of (pi_range1 hg hm (pa_cons h pa_nil hs) hs) fun F σ H S Rw r hf => tE.use r hf fun v H1 F1 S1 d x1 r1 h1 q => by
    obtain ⟨j, rfl, q1, q2, q3⟩ := onI.get q
    exact ⟨j, by rw [show v = .int j from h1], q1, q2, F1, S1, _, x1, r1, itr_ok, q3⟩
theorem ji_range2 {p pos : Pos} {f g : DE} (hg : Gl X "range") (hm : X.mg "range" = none) (h : JE X z a f) (k : JE X z b g) (hs : starEach [a, b] X.env = [(false, eval a X.env), (false, eval b X.env)] := by rfl) (hs1 : starEach [b] X.env = [(false, eval b X.env)] := by rfl) : JI X z tg (.Call (.Name "range" p) [a, b] [] pos) (wR2 f g) :=
  JI.of (pi_range2 hg hm (pa_cons h (pa_cons k pa_nil hs1) (by rw [hs, hs1])) hs hs1) fun F σ H S Rw r hf => tE.use r hf fun v H1 F1 S1 d x1 r1 h1 q => tE.use r1 q fun w H2 F2 S2 d2 x2 r2 h2 q2 => by
    obtain ⟨i, rfl, q3⟩ := onI.get q2
    obtain ⟨j, rfl, q4, q5⟩ := onI.get q3
    exact ⟨i, j, by rw [show v = .int i from h1, show w = .int j from h2], q4, F2, S2, _, x1.trans x2, r2, itr_ok, q5⟩
end
def dForL (g : DG) (b : DS) : List D → DEnds → SS → Prop
  | [], E, S => E.nx S
  | d :: l, E, S => g d S fun S1 => b { nx := fun S2 => dForL g b l E S2, rt := E.rt, bk := E.nx, ct := fun S2 => dForL g b l E S2 } S1
/-- the turns of a for: what holds ahead of each turn, by what is left -/
structure For (g : DG) (b : DS) (l : List D) (E : DEnds) (S : SS) : Prop where
  ex : ∃ I : List D → SS → Prop, I l S ∧ (∀ S1, I [] S1 → E.nx S1) ∧ ∀ d r S0, I (d :: r) S0 → g d S0 fun S1 => b { nx := I r, rt := E.rt, bk := E.nx, ct := I r } S1
theorem For.unroll {g : DG} {b : DS} {l : List D} {E : DEnds} {S : SS} (h : dForL g b l E S) : For g b l E S :=
  ⟨⟨fun r S1 => dForL g b r E S1, h, fun _ h => h, fun _ _ _ h => h⟩⟩
def dFor (w : DI) (g : DG) (b : DS) : DS := fun E S => w S fun l S1 => For g b l E S1
structure While (t : DT) (b : DS) (E : DEnds) (S : SS) : Prop where
  ex : ∃ I : Nat → SS → Prop, (∃ m, I m S) ∧ ∀ m S, I m S → t S fun k S1 =>
  (k = true → b { nx := fun S2 => ∃ m', m' < m ∧ I m' S2, rt := E.rt, bk := E.nx, ct := fun S2 => ∃ m', m' < m ∧ I m' S2 } S1) ∧ (k = false → E.nx S1)
def dWhile (t : DT) (b : DS) : DS := fun E S => While t b E S
section
variable {X : Cx} {z : Z} {tg it c : Expr} {body : List Stmt} {pos : Pos}
theorem drop_cons {α : Type} {l : List α} {i : Nat} {d : α} (h : l[i]? = some d) : l.drop i = d :: l.drop (i + 1) := by
  obtain ⟨h1, h2⟩ := List.getElem?_eq_some_iff.mp h
  rw [List.drop_eq_getElem_cons h1, h2]
theorem js_for {w : DI} {g : DG} {b : DS} (hp : PassesOwn (model X.prog X.w) X.A X.env X.xe) (hc : X.calm = true) (hi : JI X z tg it w) (hg : JG X z tg g) (hb : JB X z body b)
    (hs : ∀ x, foldedSetIterable it X.env x = pure x := by intro _; rfl) : JS X z (.For tg it body [] pos) (dFor w g b) :=
  JS.of (ps_for hp hc hi hg hb hs) fun F σ H S E r hf => ⟨F, S, _, r, hf, fun J H' ⟨F', S', l, x', r', ok, ⟨I, q, qn, qs⟩⟩ => by
    refine ⟨fun i m σ1 H1 => m = l.length - i ∧ i ≤ l.length ∧ ∃ F1 S1, Ext z.n F' F1 ∧ Rep z F1 σ1 H1 S1 ∧ I (l.drop i) S1, ⟨l.length, by omega, by omega, F', S', Ext.refl, r', by simpa using q⟩, ?_⟩
    rintro i m σ1 H1 ⟨rfl, hi, F1, S1, x1, r1, q1⟩
    by_cases hl : i = l.length
    · refine .inl ⟨ok.stop F1 H1 i x1 r1.ext (by omega), ?_⟩
      rw [hl, List.drop_length] at q1
      exact ⟨F1, S1, x'.trans x1, r1, qn _ q1⟩
    · have hi' : i < l.length := by omega
      refine .inr ⟨ok.go F1 H1 i x1 r1.ext hi', fun σ2 H2 => ∃ F2 S2, Ext z.n F' F2 ∧ Rep z F2 σ2 H2 S2 ∧ I (l.drop (i + 1)) S2, ?_, ?_⟩
      · rintro σ2 H2 ⟨F2, S2, x2, r2, q2⟩
        exact ⟨l.length - (i + 1), by omega, rfl, by omega, F2, S2, x2, r2, q2⟩
      · intro v H2 hy
        obtain ⟨d, F2, e2, x2, x3, nw, kp, h2⟩ := ok.yld F1 H1 i v H2 x1 r1.ext hy hi'
        have r2 := r1.grow x2 nw kp x3
        rw [drop_cons e2] at q1
        refine tG.use r2 h2 (qs _ _ _ q1) fun σ3 H3 F3 S3 x4 r3 q3 => ⟨F3, S3, _, r3, q3, ?_⟩
        have x5 := ((x'.trans x1).trans x2).trans x4
        exact ⟨fun σ4 H4 ⟨F4, S4, x6, r4, q4⟩ => ⟨F4, S4, ((x1.trans x2).trans x4).trans x6, r4, q4⟩, fun v H4 h => h.up x5, fun σ4 H4 h => h.up x5, fun σ4 H4 ⟨F4, S4, x6, r4, q4⟩ => ⟨F4, S4, ((x1.trans x2).trans x4).trans x6, r4, q4⟩⟩⟩
theorem js_while {t : DT} {b : DS} (hp : PassesOwn (model X.prog X.w) X.A X.env X.xe) (hc : JT X z c t) (hb : JB X z body b) : JS X z (.While c body [] pos) (dWhile t b) :=
  JS.of (ps_while hp hc hb) fun F σ H S E r ⟨⟨I, ⟨m0, i0⟩, hI⟩⟩ => by
    refine ⟨fun m σ1 H1 => ∃ F1 S1, Ext z.n F F1 ∧ Rep z F1 σ1 H1 S1 ∧ I m S1, ⟨m0, F, S, Ext.refl, r, i0⟩, ?_⟩
    rintro m σ1 H1 ⟨F1, S1, x1, r1, i1⟩
    refine tT.use r1 (hI m S1 i1) fun k H2 F2 S2 x2 r2 q2 => ?_
    cases k with
    | false => exact iteF ⟨F2, S2, x1.trans x2, r2, q2.2 rfl⟩
    | true =>
      refine iteT ⟨fun σ3 H3 => ∃ m' F3 S3, m' < m ∧ Ext z.n F F3 ∧ Rep z F3 σ3 H3 S3 ∧ I m' S3, fun σ3 H3 ⟨m', F3, S3, lt, x3, r3, i3⟩ => ⟨m', lt, F3, S3, x3, r3, i3⟩, ?_⟩
      have x3 := x1.trans x2
      exact ⟨F2, S2, _, r2, q2.1 rfl, fun σ4 H4 ⟨F4, S4, x6, r4, m', lt, i4⟩ => ⟨m', F4, S4, lt, x3.trans x6, r4, i4⟩, fun v H4 h => h.up x3, fun σ4 H4 h => h.up x3, fun σ4 H4 ⟨F4, S4, x6, r4, m', lt, i4⟩ => ⟨m', F4, S4, lt, x3.trans x6, r4, i4⟩⟩
end
end DL

namespace DL
open PySem L2

structure GOk (K : PySem.W.Frag) (g : TG) (gd : DG) (vs : List Nat) : Prop where
  ok : ∀ {z : Z} {F : Hp} {σ : L2.St} {H : Hp} {S : SS} {d : D} {v : V} {R : SS → Prop} {Q : L2.St → Hp → Prop}, z.n.K = K → (∀ i ∈ vs, z.pr i = none) → Rep z F σ H S → Rp z.n F d v → gd d S R →
    (∀ σ' S', Rep z F σ' H S' → R S' → (∀ j, j ∉ vs → σ'[j]? = σ[j]?) → σ'.length = σ.length → Q σ' H) → g v σ H Q
structure GsOk (K : PySem.W.Frag) (g : TGs) (gd : DGs) (vs : List Nat) : Prop where
  ok : ∀ {z : Z} {F : Hp} {σ : L2.St} {H : Hp} {S : SS} {ds : List D} {ws : List V} {R : SS → Prop} {Q : L2.St → Hp → Prop}, z.n.K = K → (∀ i ∈ vs, z.pr i = none) → Rep z F σ H S → Rps z.n F ds ws → gd ds S R →
    (∀ σ' S', Rep z F σ' H S' → R S' → (∀ j, j ∉ vs → σ'[j]? = σ[j]?) → σ'.length = σ.length → Q σ' H) → g ws σ H Q
theorem gok_name {K : PySem.W.Frag} {i : Nat} : GOk K (gName i) (gN i) [i] := ⟨fun {z F σ H S d v R Q} hz p r h q k => k _ _ (r.setVal (p i (by simp)) h) q (fun j hj => by
  rw [st_set, if_neg (fun e => hj (by rw [e]; simp))]) (by rw [List.length_set])⟩
theorem gsok_nil {K : PySem.W.Frag} : GsOk K gNil gsNil [] := ⟨fun {z F σ H S ds ws R Q} hz p r h q k => by
  cases ds with
  | nil => exact ⟨h, k _ _ r q (fun _ _ => rfl) rfl⟩
  | cons d ds => exact q.elim⟩
theorem gsok_cons {K : PySem.W.Frag} {g : TG} {gd : DG} {h : TGs} {hd : DGs} {vs ws : List Nat} (a : GOk K g gd vs) (b : GsOk K h hd ws) : GsOk K (gCons g h) (gsCons gd hd) (vs ++ ws) := ⟨fun {z F σ H S ds xs R Q} hz p r hr q k => by
  cases ds with
  | nil => exact q.elim
  | cons d ds =>
    obtain ⟨v, rr, rfl, h1, h2⟩ := hr
    refine ⟨v, rr, rfl, a.ok hz (fun i hi => p i (by simp [hi])) r h1 q fun σ1 S1 r1 q1 o1 l1 => ?_⟩
    refine b.ok hz (fun i hi => p i (by simp [hi])) r1 h2 q1 fun σ2 S2 r2 q2 o2 l2 => ?_
    exact k σ2 S2 r2 q2 (fun j hj => by
      rw [o2 j (fun e => hj (by simp [e])), o1 j (fun e => hj (by simp [e]))]) (l2.trans l1)⟩
theorem gok_tup {K : PySem.W.Frag} {n : Nat} {g : TGs} {gd : DGs} {vs : List Nat} (a : GsOk K g gd vs) : GOk K (gTup K n g) (gT n gd) vs := ⟨fun {z F σ H S d v R Q} hz p r hr q k => by
  obtain ⟨l, rfl, hl, q1⟩ := onT.get q
  obtain ⟨x, xs, rfl, h1, s1⟩ := hr
  exact ⟨x, xs, rfl, SqT.of (r.ext.at h1 rfl), by rw [s1.length]; exact hl, a.ok hz p r s1 q1 k⟩⟩
theorem jg_of {X : Cx} {z : Z} {t : Expr} {g : TG} {gd : DG} {vs : List Nat} (hz : z.n.K = X.K) (h : PG X t g) (a : GOk X.K g gd vs) (p : ∀ i ∈ vs, z.pr i = none) : JG X z t gd :=
  JG.of h fun F σ H S d v R r hd q => a.ok hz p r hd q fun σ' S' r' q' _ _ => ⟨F, S', Ext.refl, r', q'⟩

open Classical in
noncomputable def blkH (z : Z) (σ : L2.St) (H : Hp) (S : SS) : Hp := fun a => if (∃ (i : Nat) (c : Ct), S[i]? = some (.own c) ∧ σ[i]? = some (some (.ref a)) ∧ ∀ j, z.pr j ≠ some a) then none else H a
noncomputable abbrev blkZ (z : Z) (F : Hp) (σ : L2.St) (H : Hp) (S : SS) : Z := ⟨z.n, F, blkH z σ H S, z.pr⟩
section
variable {z : Z} {F F' : Hp} {σ σ' : L2.St} {H H' : Hp} {S S' : SS}
theorem blkH_some {a : Addr} {o : HO} (h : blkH z σ H S a = some o) : H a = some o := by
  unfold blkH at h
  split at h
  · cases h
  · exact h
theorem blkH_at {a : Addr} (h : ∀ (i : Nat) (c : Ct), S[i]? = some (.own c) → σ[i]? ≠ some (some (.ref a))) : blkH z σ H S a = H a := by
  unfold blkH
  rw [if_neg]
  rintro ⟨i, c, h1, h2, _⟩
  exact h i c h1 h2
theorem blkH_pr {a : Addr} {i : Nat} (h : z.pr i = some a) : blkH z σ H S a = H a := by
  unfold blkH
  rw [if_neg]
  rintro ⟨_, c, _, _, h3⟩
  exact h3 i h
theorem Rep.block (r : Rep z F σ H S) : Rep (blkZ z F σ H S) F σ H S where
  ext := r.ext
  keep := fun a o h _ => blkH_some h
  new := fun a o h => .inl ⟨o, h⟩
  len := r.len
  sl := fun i s h => by
    have q := r.sl i s h
    cases s with
    | free => trivial
    | val d => exact q
    | own c =>
      obtain ⟨a, e1, f1, n1, c1⟩ := q
      refine ⟨a, e1, f1, ?_, c1⟩
      rcases all_or (p := fun j => z.pr j = some a) with hp | ⟨j, hj⟩
      · refine .inl ?_
        show blkH z σ H S a = none
        unfold blkH
        rw [if_pos ⟨i, c, h, e1, hp⟩]
      · rcases n1 with n1 | n1
        · obtain ⟨⟨o, ho⟩, _⟩ := r.pi0 j a hj
          rw [n1] at ho; cases ho
        · exact .inr n1
    | slf c l => exact q
  pin := r.pin
  pi0 := fun i a h => by
    obtain ⟨_, o, h2, h3⟩ := r.pi0 i a h
    exact ⟨⟨o, by rw [show (blkZ z F σ H S).H0 a = H a from blkH_pr h]; exact h2⟩, o, h2, h3⟩
  pf := fun i a h => by
    cases e : F a with
    | none => exact .inl rfl
    | some o => exact .inr ⟨o, e⟩
  inj := r.inj
theorem Rep.back (r : Rep z F σ H S) (x : Ext z.n F F') (b : Rep (blkZ z F σ H S) F' σ' H' S') (hp : ∀ i a, z.pr i = some a → σ'[i]? = some (some (.ref a))) : Rep z F' σ' H' S' := by
  have old : ∀ a, z.H0 a ≠ none → (∀ i, z.pr i ≠ some a) → blkH z σ H S a = H a := fun a h hp => by
    refine blkH_at fun i c h1 h2 => ?_
    obtain ⟨a', e1, _, n1, _⟩ := r.sl i _ h1
    rw [h2] at e1; cases e1
    rcases n1 with n1 | n1
    · exact h n1
    · exact hp i n1
  have toH : ∀ a, blkH z σ H S a = none → (∀ i, z.pr i ≠ some a) → z.H0 a = none := fun a h hp => by
    cases e : z.H0 a with
    | none => rfl
    | some o =>
      have q := old a (by rw [e]; simp) hp
      rw [h] at q
      have := r.keep a o e hp
      rw [← q] at this; cases this
  refine ⟨b.ext, fun a o h p => ?_, fun a o h => ?_, b.len, fun i s h => ?_, hp, fun i a h => ?_, fun i a h => ?_, b.inj⟩
  · have h1 := r.keep a o h p
    refine b.keep a o ?_ p
    show blkH z σ H S a = some o
    rw [old a (by rw [h]; simp) p]; exact h1
  · rcases b.new a o h with ⟨o0, q⟩ | q | ⟨xs, rfl, q⟩
    · rcases r.new a o0 q with w | w | ⟨xs, rfl, w⟩
      · exact .inl w
      · exact .inr (.inl w)
      · have := x.at q rfl
        rw [h] at this; cases this
        exact .inr (.inr ⟨xs, rfl, w⟩)
    · rcases all_or (p := fun j => z.pr j = some a) with hp | ⟨j, hj⟩
      · exact .inr (.inl (toH a q hp))
      · exfalso
        obtain ⟨⟨o1, h1⟩, _⟩ := b.pi0 j a hj
        rw [q] at h1; cases h1
    · cases e0 : z.H0 a with
      | none => exact .inr (.inl e0)
      | some o1 =>
        rcases all_or (p := fun j => z.pr j = some a) with hp | ⟨j, hj⟩
        · have e1 := old a (by rw [e0]; simp) hp
          have e2 := r.keep a o1 e0 hp
          rw [← e1, show blkH z σ H S a = some (.tup xs) from q] at e2
          cases e2
          exact .inr (.inr ⟨xs, rfl, e0⟩)
        · exfalso
          obtain ⟨_, o2, h2, h3⟩ := r.pi0 j a hj
          rw [← blkH_pr (z := z) (σ := σ) (H := H) (S := S) hj, show blkH z σ H S a = some (.tup xs) from q] at h2
          cases h2; cases h3
  · have q := b.sl i s h
    cases s with
    | free => trivial
    | val d => exact q
    | own c =>
      obtain ⟨a, e1, f1, n1, c1⟩ := q
      refine ⟨a, e1, f1, ?_, c1⟩
      rcases n1 with n1 | n1
      · rcases all_or (p := fun j => z.pr j = some a) with hp | ⟨j, hj⟩
        · exact .inl (toH a n1 hp)
        · obtain ⟨⟨o1, h1⟩, _⟩ := b.pi0 j a hj
          rw [n1] at h1; cases h1
      · exact .inr n1
    | slf c l => exact q
  · exact ⟨(r.pi0 i a h).1, (b.pi0 i a h).2⟩
  · rcases b.pf i a h with q | ⟨o, q⟩
    · exact .inl q
    · rcases r.pf i a h with q' | q'
      · rw [show F a = some o from q] at q'; cases q'
      · exact .inr q'
end
@[reducible] def wipeS (S : SS) : List Nat → SS
  | [] => S
  | v :: vs => setS (wipeS S vs) v .free
@[reducible] def keepS : Slot → Slot
  | .val d => .val d
  | _ => .free
@[reducible] def unw (S T : SS) : List Nat → SS
  | [] => T
  | v :: vs => setS (unw S T vs) v (keepS (getS S v))
theorem wipe_in {σ : L2.St} {j : Nat} {vs : List Nat} (h : j ∈ vs) : (wipe σ vs)[j]? = if j < σ.length then some none else none := by
  induction vs with
  | nil => cases h
  | cons v vs ih =>
    unfold wipe
    rw [st_set]
    by_cases e : v = j
    · subst e
      rw [if_pos rfl, wipe_length]
    · rw [if_neg e]
      rcases List.mem_cons.mp h with h | h
      · exact absurd h.symm e
      · exact ih h
theorem wipe_eq {σ σ2 : L2.St} {vs : List Nat} (h : ∀ j, j ∉ vs → σ2[j]? = (wipe σ vs)[j]?) (hl : σ2.length = (wipe σ vs).length) : wipe σ2 vs = wipe σ vs := by
  apply List.ext_getElem?
  intro j
  rw [wipe_length] at hl
  by_cases hj : j ∈ vs
  · rw [wipe_in hj, wipe_in hj, hl]
  · rw [wipe_out hj]; exact h j hj
section
variable {z : Z} {F F' : Hp} {σ σ2 : L2.St} {H H' : Hp} {S T : SS} {vs : List Nat}
theorem wipeS_len : ∀ (vs : List Nat), (wipeS S vs).length = S.length
  | [] => rfl
  | v :: vs => by
    show (setS (wipeS S vs) v .free).length = S.length
    rw [setS_len, wipeS_len vs]
theorem wipeS_get : ∀ {vs : List Nat} {j : Nat} {s : Slot}, (wipeS S vs)[j]? = some s → (s = .free) ∨ (j ∉ vs ∧ S[j]? = some s)
  | [], j, s, h => .inr ⟨by simp, h⟩
  | v :: vs, j, s, h => by
    rcases setS_get (S := wipeS S vs) h with ⟨e, rfl⟩ | ⟨ne, h'⟩
    · exact .inl rfl
    · rcases wipeS_get h' with q | ⟨q1, q2⟩
      · exact .inl q
      · exact .inr ⟨fun m => by rcases List.mem_cons.mp m with e | e; exact ne e; exact q1 e, q2⟩
theorem unw_len : ∀ (vs : List Nat), (unw S T vs).length = T.length
  | [] => rfl
  | v :: vs => by
    show (setS (unw S T vs) v _).length = T.length
    rw [setS_len, unw_len vs]
theorem unw_get : ∀ {vs : List Nat} {j : Nat} {s : Slot}, (unw S T vs)[j]? = some s → (s = .free) ∨ (j ∈ vs ∧ ∃ d, s = .val d ∧ S[j]? = some (.val d)) ∨ (j ∉ vs ∧ T[j]? = some s)
  | [], j, s, h => .inr (.inr ⟨by simp, h⟩)
  | v :: vs, j, s, h => by
    rcases setS_get (S := unw S T vs) h with ⟨e, e2⟩ | ⟨ne, h'⟩
    · subst e
      cases q : getS S j with
      | val d =>
        rw [q] at e2
        exact .inr (.inl ⟨by simp, d, e2, getS_some q (by intro x; cases x)⟩)
      | free => rw [q] at e2; exact .inl e2
      | own c => rw [q] at e2; exact .inl e2
      | slf c l => rw [q] at e2; exact .inl e2
    · rcases unw_get h' with q | ⟨q1, q2⟩ | ⟨q1, q2⟩
      · exact .inl q
      · exact .inr (.inl ⟨List.mem_cons_of_mem _ q1, q2⟩)
      · exact .inr (.inr ⟨fun m => by rcases List.mem_cons.mp m with e | e; exact ne e; exact q1 e, q2⟩)
theorem Rep.wiped (r : Rep z F σ H S) (p : ∀ i ∈ vs, z.pr i = none) : Rep z F (wipe σ vs) H (wipeS S vs) where
  ext := r.ext
  keep := r.keep
  new := r.new
  len := by rw [wipe_length, wipeS_len, r.len]
  sl := fun j s h => by
    rcases wipeS_get h with rfl | ⟨nj, h'⟩
    · trivial
    · have q := r.sl j s h'
      have e := wipe_out (σ := σ) nj
      cases s with
      | free => trivial
      | val d => obtain ⟨v, e1, q1⟩ := q; exact ⟨v, by rw [e]; exact e1, q1⟩
      | own c => obtain ⟨v, e1, q1⟩ := q; exact ⟨v, by rw [e]; exact e1, q1⟩
      | slf c l => obtain ⟨v, dx, fs, e1, q1⟩ := q; exact ⟨v, dx, fs, by rw [e]; exact e1, q1⟩
  pin := fun i a h => by
    have ni : i ∉ vs := fun m => by rw [p i m] at h; cases h
    rw [wipe_out ni]; exact r.pin i a h
  pi0 := r.pi0
  pf := r.pf
  inj := fun i j c c' a hi hj ei ej => by
    rcases wipeS_get hi with e | ⟨ni, hi'⟩
    · cases e
    · rcases wipeS_get hj with e | ⟨nj, hj'⟩
      · cases e
      · rw [wipe_out ni] at ei
        rw [wipe_out nj] at ej
        exact r.inj i j c c' a hi' hj' ei ej
theorem Rep.unwiped (r : Rep z F σ H S) (b : Rep z F' σ2 H' T) (x : Ext z.n F F') (e : wipe σ2 vs = wipe σ vs) : Rep z F' σ H' (unw S T vs) := by
  have out : ∀ j, j ∉ vs → σ2[j]? = σ[j]? := fun j hj => by
    rw [← wipe_out (σ := σ2) hj, ← wipe_out (σ := σ) hj, e]
  have hl : σ2.length = σ.length := by
    rw [← wipe_length σ2 vs, e, wipe_length]
  refine ⟨b.ext, b.keep, b.new, by rw [unw_len, ← b.len, hl], fun j s h => ?_, r.pin, b.pi0, b.pf, fun i j c c' a hi hj ei ej => ?_⟩
  · rcases unw_get h with rfl | ⟨_, d, rfl, h'⟩ | ⟨nj, h'⟩
    · trivial
    · obtain ⟨v, e1, h1⟩ := r.sl j _ h'
      exact ⟨v, e1, h1.mono x⟩
    · have q := b.sl j s h'
      have e' := out j nj
      cases s with
      | free => trivial
      | val d => obtain ⟨v, e1, q1⟩ := q; exact ⟨v, by rw [← e']; exact e1, q1⟩
      | own c => obtain ⟨v, e1, q1⟩ := q; exact ⟨v, by rw [← e']; exact e1, q1⟩
      | slf c l => obtain ⟨v, dx, fs, e1, q1⟩ := q; exact ⟨v, dx, fs, by rw [← e']; exact e1, q1⟩
  · rcases unw_get hi with e1 | ⟨_, d, e1, _⟩ | ⟨ni, hi'⟩
    · cases e1
    · cases e1
    · rcases unw_get hj with e2 | ⟨_, d, e2, _⟩ | ⟨nj, hj'⟩
      · cases e2
      · cases e2
      · exact b.inj i j c c' a hi' hj' (by rw [out i ni]; exact ei) (by rw [out j nj]; exact ej)
end
def tEx (n : Nm) (pr : Nat → Option Addr) (f : DE) : TE := fun σ H Q => ∃ F0 H0, tE ⟨n, F0, H0, pr⟩ f σ H Q
def tTx (n : Nm) (pr : Nat → Option Addr) (f : DT) : TT := fun σ H Q => ∃ F0 H0, tT ⟨n, F0, H0, pr⟩ f σ H Q
theorem PE.ex {X : Cx} {n : Nm} {pr : Nat → Option Addr} {e : Expr} {f : DE} (h : ∀ F0 H0, JE X ⟨n, F0, H0, pr⟩ e f) : PE X e (tEx n pr f) :=
  ⟨fun pins s σ H Q I ⟨F0, H0, q⟩ => (h F0 H0).run pins s σ H Q I q⟩
def JTs (X : Cx) (z : Z) (ifs : List Expr) (f : DT) : Prop := PTs X ifs (tT z f)
theorem PTs.ex {X : Cx} {n : Nm} {pr : Nat → Option Addr} {ifs : List Expr} {f : DT} (h : ∀ F0 H0, JTs X ⟨n, F0, H0, pr⟩ ifs f) : PTs X ifs (tTx n pr f) :=
  ⟨fun pins s σ H Q I ⟨F0, H0, q⟩ => (h F0 H0).run pins s σ H Q I q⟩
def dYes : DT := fun S R => R true S
theorem jts_nil {X : Cx} {z : Z} : JTs X z [] dYes :=
  ⟨fun pins st σ H Q I ⟨F, S, R, r, hf, k⟩ => pts_nil.run pins st σ H Q I (k true H ⟨F, S, Ext.refl, r, hf⟩)⟩
theorem jts_one {X : Cx} {z : Z} {c : Expr} {f : DT} (h : JT X z c f) : JTs X z [c] f := pts_one h
/-- the turns of a comprehension -/
def dLcL (g : DG) (t : DT) (f : DE) (vs : List Nat) : List D → List D → SS → (List D → SS → Prop) → Prop
  | [], acc, S, R => R acc S
  | d :: l, acc, S, R => g d (wipeS S vs) fun S1 => t S1 fun k S2 => (k = true → f S2 fun o S3 => dLcL g t f vs l (acc ++ [o]) (unw S S3 vs) R) ∧ (k = false → dLcL g t f vs l acc (unw S S2 vs) R)
/-- what holds ahead of each turn, by what is gathered and what is left -/
structure Lc (g : DG) (t : DT) (f : DE) (vs : List Nat) (l : List D) (S : SS) (R : List D → SS → Prop) : Prop where
  ex : ∃ I : List D → List D → SS → Prop, I [] l S ∧ (∀ acc S1, I acc [] S1 → R acc S1) ∧
  ∀ acc d r S0, I acc (d :: r) S0 → g d (wipeS S0 vs) fun S1 => t S1 fun k S2 => (k = true → f S2 fun o S3 => I (acc ++ [o]) r (unw S0 S3 vs)) ∧ (k = false → I acc r (unw S0 S2 vs))
theorem Lc.unroll {g : DG} {t : DT} {f : DE} {vs : List Nat} {l : List D} {S : SS} {R : List D → SS → Prop} (h : dLcL g t f vs l [] S R) : Lc g t f vs l S R :=
  ⟨⟨fun acc r S1 => dLcL g t f vs r acc S1 R, h, fun _ _ h => h, fun _ _ _ _ h => h⟩⟩
/-- [f for g in w if t] -/
def fLc (w : DI) (g : DG) (t : DT) (f : DE) (vs : List Nat) : DF := fun S R => w S fun l S1 => l.length ≤ sizeLine ∧ Lc g t f vs l S1 fun acc S2 => R (.lst acc) S2
section
variable {X : Cx} {z : Z} {elt tg iter : Expr} {ifs : List Expr} {scope : Scope} {own : List (Str × Nat)} {pos : Pos} {w : DI} {g : TG} {gd : DG} {t : DT} {f : DE}
theorem lc_use (hz : z.n.K = X.K) (hg : GOk X.K g gd (own.map (·.2))) (hp : ∀ i ∈ own.map (·.2), z.pr i = none) {F : Hp} {σ : L2.St} {H : Hp} {S : SS} {R : Ct → SS → Prop} (r : Rep z F σ H S) (hf : fLc w gd t f (own.map (·.2)) S R) {Q : VK} (kQ : ∀ v H', PostF z F σ R v H' → Q v H') :
    tLc (tI z w) g (tTx z.n z.pr t) (tEx z.n z.pr f) (own.map (·.2)) σ H Q := by
  refine ⟨F, S, _, r, hf, fun J H0 ⟨F0, S0, l, x0, r0, ok, hl, ⟨I, q, qn, qs⟩⟩ D nD => ?_⟩
  refine ⟨fun i m H1 => m = l.length - i ∧ i ≤ l.length ∧ ∃ F1 S1 acc xs, Ext z.n F0 F1 ∧ Rep z F1 σ H1 S1 ∧ H1 D = some (.lst xs) ∧ Fresh z σ F1 H1 S1 (.lst acc) D ∧ xs.length = acc.length ∧ acc.length ≤ i ∧ I acc (l.drop i) S1, ?_, ?_⟩
  · obtain ⟨r1, fr⟩ := r0.fresh (c := .lst []) (o := .lst []) nD ⟨[], upd_same, rfl⟩
    exact ⟨l.length, by omega, by omega, F0, S0, [], [], Ext.refl, r1, upd_same, fr, rfl, by simp, by simpa using q⟩
  · rintro i m H1 ⟨rfl, hi, F1, S1, acc, xs, x1, r1, hD, fr, hlen, hacc, q1⟩
    by_cases he : i = l.length
    · refine .inl ⟨ok.stop F1 H1 i x1 r1.ext (by omega), ?_⟩
      rw [he, List.drop_length] at q1
      exact kQ _ _ ⟨F1, S1, .lst acc, D, rfl, x0.trans x1, r1, fr, qn _ _ q1⟩
    · have hi' : i < l.length := by omega
      refine .inr ⟨ok.go F1 H1 i x1 r1.ext hi', fun H2 => ∃ F2 S2 acc xs, Ext z.n F0 F2 ∧ Rep z F2 σ H2 S2 ∧ H2 D = some (.lst xs) ∧ Fresh z σ F2 H2 S2 (.lst acc) D ∧ xs.length = acc.length ∧ acc.length ≤ i + 1 ∧ I acc (l.drop (i + 1)) S2, ?_, ?_⟩
      · rintro H2 ⟨F2, S2, acc2, xs2, a1, a2, a3, a4, a5, a6, a7⟩
        exact ⟨l.length - (i + 1), by omega, rfl, by omega, F2, S2, acc2, xs2, a1, a2, a3, a4, a5, a6, a7⟩
      · intro v H2 hy
        obtain ⟨d, F2, e2, x2, x3, nw, kp, h2⟩ := ok.yld F1 H1 i v H2 x1 r1.ext hy hi'
        have r2 := r1.grow x2 nw kp x3
        have hD2 := kp D _ hD
        have fD2 : F2 D = none := by
          cases e : F2 D with
          | none => rfl
          | some u =>
            rcases nw D u e with ⟨o0, q0⟩ | q0 | ⟨_, _, q0⟩
            · rw [fr.out] at q0; cases q0
            · rw [hD] at q0; cases q0
            · rw [hD] at q0; cases q0
        have pD : ∀ j, z.pr j ≠ some D := fun j hj => by
          obtain ⟨⟨o, ho⟩, _⟩ := r1.pi0 j D hj
          rw [fr.new] at ho; cases ho
        have bD : blkH z σ H2 S1 D = some (.lst xs) := by rw [blkH_at fr.ne]; exact hD2
        obtain ⟨xs', hx', sx⟩ := fr.ct
        rw [hD] at hx'; cases hx'
        rw [drop_cons e2] at q1
        refine hg.ok (z := blkZ z F2 σ H2 S1) hz hp (r2.block.wiped hp) h2 (qs _ _ _ _ q1) fun σ3 S3 r3 q3 o3 l3 => ?_
        have we : wipe σ3 (own.map (·.2)) = wipe σ (own.map (·.2)) := wipe_eq o3 l3
        -- behind the block: everything back, the list as it stands
        have fin : ∀ {F5 : Hp} {H5 : Hp} {S5 : SS}, Ext z.n F2 F5 → Rep (blkZ z F2 σ H2 S1) F5 σ3 H5 S5 → Rep z F5 σ H5 (unw S1 S5 (own.map (·.2))) ∧ H5 D = some (.lst xs) ∧ F5 D = none ∧ ∀ (j : Nat) (c : Ct), (unw S1 S5 (own.map (·.2)))[j]? = some (.own c) → σ[j]? ≠ some (some (.ref D)) := fun {F5 H5 S5} x5 r5 => by
          have hp3 : ∀ i a, z.pr i = some a → σ3[i]? = some (some (.ref a)) := r5.pin
          have rb := r2.back x5 r5 hp3
          have ru := r2.unwiped rb x5 we
          have hD5 : H5 D = some (.lst xs) := r5.keep D _ bD pD
          have fD5 : F5 D = none := by
            cases e : F5 D with
            | none => rfl
            | some u =>
              rcases r5.new D u e with ⟨o0, q0⟩ | q0 | ⟨_, _, q0⟩
              · rw [show F2 D = some o0 from q0] at fD2; cases fD2
              · rw [show blkH z σ H2 S1 D = none from q0] at bD; cases bD
              · rw [show blkH z σ H2 S1 D = _ from q0] at bD; cases bD
          refine ⟨ru, hD5, fD5, fun j c hj ej => ?_⟩
          rcases unw_get hj with e1 | ⟨_, d', e1, _⟩ | ⟨nj, hj'⟩
          · cases e1
          · cases e1
          · obtain ⟨a, e1, _, n1, _⟩ := r5.sl j _ hj'
            have : σ3[j]? = σ[j]? := by rw [← wipe_out (σ := σ3) nj, we, wipe_out nj]
            rw [this, ej] at e1; cases e1
            rcases n1 with n1 | n1
            · rw [show blkH z σ H2 S1 D = none from n1] at bD; cases bD
            · exact pD j n1
        refine ⟨we, F2, blkH z σ H2 S1, tT.use r3 q3 fun k H4 F4 S4 x4 r4 q4 => ?_⟩
        cases k with
        | true =>
          refine iteT ⟨F2, blkH z σ H2 S1, tE.use r4 (q4.1 rfl) fun y H5 F5 S5 o x5 r5 h5 q5 => ?_⟩
          obtain ⟨ru, hD5, fD5, nD5⟩ := fin (x4.trans x5) r5
          refine ⟨xs, hD5, by have := hl; omega, F5, _, acc ++ [o], xs ++ [y], x1.trans (x2.trans (x4.trans x5)), ru.poke fD5 fr.new nD5, upd_same, ?_, by simp [hlen], by simp; omega, q5⟩
          exact ⟨fD5, fr.new, ⟨_, upd_same, (sx.mono (x2.trans (x4.trans x5))).append (Rps.one h5)⟩, nD5⟩
        | false =>
          refine iteF ?_
          obtain ⟨ru, hD5, fD5, nD5⟩ := fin x4 r4
          exact ⟨F4, _, acc, xs, x1.trans (x2.trans x4), ru, hD5, ⟨fD5, fr.new, ⟨xs, hD5, sx.mono (x2.trans x4)⟩, nD5⟩, hlen, by omega, q4.2 rfl⟩
theorem jf_lc (hz : z.n.K = X.K) (hc : X.calm = true) (hN : X.N.Nodup) (hi : JI X z tg iter w) (ok : BlkOk X.N X.env.scope scope own)
    (hg : ∀ (s : Shared) (H : Hp) (C : Addr) (cl : List (Str × Addr)) (fp : List Addr), PG (X.blk s H scope (compEnvC scope cl C X.env) fp) tg g) (hgo : GOk X.K g gd (own.map (·.2))) (hp : ∀ i ∈ own.map (·.2), z.pr i = none)
    (ht : ∀ (F0 H0 : Hp) (s : Shared) (H : Hp) (C : Addr) (cl : List (Str × Addr)) (fp : List Addr), JTs (X.blk s H scope (compEnvC scope cl C X.env) fp) ⟨z.n, F0, H0, z.pr⟩ ifs t)
    (he : ∀ (F0 H0 : Hp) (s : Shared) (H : Hp) (C : Addr) (cl : List (Str × Addr)) (fp : List Addr), JE (X.blk s H scope (compEnvC scope cl C X.env) fp) ⟨z.n, F0, H0, z.pr⟩ elt f) (hs : ∀ x, foldedSetIterable iter X.env x = pure x := by intro _; rfl) :
    JF X z (.ListComp elt [⟨tg, iter, ifs, 0⟩] scope pos) (fLc w gd t f (own.map (·.2))) :=
  JF.of (pe_lc hc hN hi ok hg (fun s H C cl fp => PTs.ex fun F0 H0 => ht F0 H0 s H C cl fp) (fun s H C cl fp => PE.ex fun F0 H0 => he F0 H0 s H C cl fp) hs) fun F σ H S R r hf => lc_use hz hgo hp r hf fun _ _ h => h
/-- name = [..] on one line, the name a local: it owns the list -/
theorem js_setLcF {i : Nat} {y : Str} {py spos : Pos} (hz : z.n.K = X.K) (hc : X.calm = true) (hN : X.N.Nodup) (hy : X.N[i]? = some y) (hyl : X.env.scope.names.lookup y = some .local) (pi : z.pr i = none)
    (hsw : swapsWith (.ListComp elt [⟨tg, iter, ifs, 0⟩] scope pos) (some (.Name y py)) spos.line X.env = pure true) (hi : JI X z tg iter w) (ok : BlkOk X.N X.env.scope scope own)
    (hg : ∀ (s : Shared) (H : Hp) (C : Addr) (cl : List (Str × Addr)) (fp : List Addr), PG (X.blk s H scope (compEnvC scope cl C X.env) fp) tg g) (hgo : GOk X.K g gd (own.map (·.2))) (hp : ∀ i ∈ own.map (·.2), z.pr i = none)
    (ht : ∀ (F0 H0 : Hp) (s : Shared) (H : Hp) (C : Addr) (cl : List (Str × Addr)) (fp : List Addr), JTs (X.blk s H scope (compEnvC scope cl C X.env) fp) ⟨z.n, F0, H0, z.pr⟩ ifs t)
    (he : ∀ (F0 H0 : Hp) (s : Shared) (H : Hp) (C : Addr) (cl : List (Str × Addr)) (fp : List Addr), JE (X.blk s H scope (compEnvC scope cl C X.env) fp) ⟨z.n, F0, H0, z.pr⟩ elt f) (hs : ∀ x, foldedSetIterable iter X.env x = pure x := by intro _; rfl) :
    JS X z (.Assign [.Name y py] (.ListComp elt [⟨tg, iter, ifs, 0⟩] scope pos) spos) (dAsgF i (fLc w gd t f (own.map (·.2)))) :=
  JS.of (ps_setLc hc hN hy hyl hsw hi ok hg (fun s H C cl fp => PTs.ex fun F0 H0 => ht F0 H0 s H C cl fp) (fun s H C cl fp => PE.ex fun F0 H0 => he F0 H0 s H C cl fp) hs) fun F σ H S E r hf => by
    refine lc_use hz hgo hp r hf (Q := fun x H1 => gName i x σ H1 (endsOf z F E).nx) fun v H' ⟨F', S', c, a, e, x, r', fr, q⟩ => ?_
    subst e
    exact ⟨F', _, x, r'.setOwn pi fr, q⟩
/-- .. the name holds it as a value -/
theorem js_setLc {i : Nat} {y : Str} {py spos : Pos} (hz : z.n.K = X.K) (hc : X.calm = true) (hN : X.N.Nodup) (hy : X.N[i]? = some y) (hyl : X.env.scope.names.lookup y = some .local) (pi : z.pr i = none)
    (hsw : swapsWith (.ListComp elt [⟨tg, iter, ifs, 0⟩] scope pos) (some (.Name y py)) spos.line X.env = pure true) (hi : JI X z tg iter w) (ok : BlkOk X.N X.env.scope scope own)
    (hg : ∀ (s : Shared) (H : Hp) (C : Addr) (cl : List (Str × Addr)) (fp : List Addr), PG (X.blk s H scope (compEnvC scope cl C X.env) fp) tg g) (hgo : GOk X.K g gd (own.map (·.2))) (hp : ∀ i ∈ own.map (·.2), z.pr i = none)
    (ht : ∀ (F0 H0 : Hp) (s : Shared) (H : Hp) (C : Addr) (cl : List (Str × Addr)) (fp : List Addr), JTs (X.blk s H scope (compEnvC scope cl C X.env) fp) ⟨z.n, F0, H0, z.pr⟩ ifs t)
    (he : ∀ (F0 H0 : Hp) (s : Shared) (H : Hp) (C : Addr) (cl : List (Str × Addr)) (fp : List Addr), JE (X.blk s H scope (compEnvC scope cl C X.env) fp) ⟨z.n, F0, H0, z.pr⟩ elt f) (hs : ∀ x, foldedSetIterable iter X.env x = pure x := by intro _; rfl) :
    JS X z (.Assign [.Name y py] (.ListComp elt [⟨tg, iter, ifs, 0⟩] scope pos) spos) (dAsg (dFrz (fLc w gd t f (own.map (·.2)))) (gN i)) :=
  JS.of (ps_setLc hc hN hy hyl hsw hi ok hg (fun s H C cl fp => PTs.ex fun F0 H0 => ht F0 H0 s H C cl fp) (fun s H C cl fp => PE.ex fun F0 H0 => he F0 H0 s H C cl fp) hs) fun F σ H S E r hf => by
    have hf' : fLc w gd t f (own.map (·.2)) S fun c S' => ∃ l, c = .lst l ∧ E.nx (setS S' i (.val c.d)) := by
      have e : ∀ acc : List D, (fun S2 : SS => ∃ l, Ct.lst acc = Ct.lst l ∧ E.nx (setS S2 i (.val (Ct.lst acc).d))) = fun S2 => E.nx (setS S2 i (.val (Ct.lst acc).d)) := fun acc => by
        funext S2
        exact propext ⟨fun ⟨_, _, q⟩ => q, fun q => ⟨_, rfl, q⟩⟩
      show w S fun l S1 => l.length ≤ sizeLine ∧ Lc gd t f _ l S1 fun acc => (fun S2 : SS => ∃ l, Ct.lst acc = Ct.lst l ∧ E.nx (setS S2 i (.val (Ct.lst acc).d)))
      rw [show (fun acc : List D => (fun S2 : SS => ∃ l, Ct.lst acc = Ct.lst l ∧ E.nx (setS S2 i (.val (Ct.lst acc).d)))) = fun acc => fun S2 => E.nx (setS S2 i (.val (Ct.lst acc).d)) from funext e]
      exact hf
    refine lc_use hz hgo hp r hf' (Q := fun x H1 => gName i x σ H1 (endsOf z F E).nx) fun v H' ⟨F', S', c, a, e, x, r', fr, l, ec, q⟩ => ?_
    subst e ec
    obtain ⟨xs, e1, q1⟩ := fr.ct
    exact ⟨upd F' a (.lst xs), _, x.trans (Ext.new fr.out), (r'.join e1 fr.out fr.new fr.ne).setVal (d := .lst l) pi ⟨a, xs, rfl, upd_same, q1.mono (Ext.new fr.out)⟩, q⟩
end
end DL

namespace DL
open PySem L2

@[reducible] def lookN : List (Nat × D) → Nat → Option D
  | [], _ => none
  | (i, d) :: r, k => if i = k then some d else lookN r k
theorem lookN_rp {n : Nm} {F : Hp} {fs : List (Str × V)} : ∀ {l : List (Nat × D)} {k : Nat} {d : D}, RpF n F l fs → lookN l k = some d → ∃ v, fs.lookup (n.fm k) = some v ∧ Rp n F d v
  | [], _, _, _, e => by cases e
  | (i, d') :: r, k, d, ⟨⟨v, e1, h1⟩, h2⟩, e => by
    unfold lookN at e
    split at e
    · rename_i q
      subst q
      cases e
      exact ⟨v, e1, h1⟩
    · exact lookN_rp h2 e
@[reducible] def onIns (c : Nat) (k : List (Nat × D) → Prop) : D → Prop
  | .ins c' l => c' = c ∧ k l
  | _ => False
theorem onIns.get {c : Nat} {k : List (Nat × D) → Prop} : ∀ {d : D}, onIns c k d → ∃ l, d = .ins c l ∧ k l
  | .ins c' l, h => by
    obtain ⟨e, h⟩ := h
    subst e
    exact ⟨l, rfl, h⟩
  | .non, h => h.elim
  | .bl _, h => h.elim
  | .int _, h => h.elim
  | .str _, h => h.elim
  | .tup _, h => h.elim
  | .lst _, h => h.elim
  | .dK _, h => h.elim
  | .dT _, h => h.elim
  | .scr _, h => h.elim
  | .stt, h => h.elim
def dFld (c k : Nat) (f : DO) : DE := fun S R => f S fun a S1 => view S1 (onIns c fun l => onSome (fun d => R d S1) (lookN l k)) a
def dSelf (i : Nat) : DE := fun S R => match getS S i with
  | .slf c l => R (.ins c l) S
  | _ => False
@[reducible] def onSlf (c : Nat) (k : List (Nat × D) → Prop) : Slot → Prop
  | .slf c' l => c' = c ∧ k l
  | _ => False
theorem onSlf.get {c : Nat} {k : List (Nat × D) → Prop} : ∀ {s : Slot}, onSlf c k s → ∃ l, s = .slf c l ∧ k l
  | .slf c' l, h => by
    obtain ⟨e, h⟩ := h
    subst e
    exact ⟨l, rfl, h⟩
  | .free, h => h.elim
  | .val _, h => h.elim
  | .own _, h => h.elim
/-- self.k = e; m: how many names there are -/
def sFldN (i c k m : Nat) (f : DE) : DS := fun E S => f S fun d S1 => onSlf c (fun l => (∀ p ∈ l, p.1 < m) ∧ lookN l k = none ∧ E.nx (setS S1 i (.slf c (l ++ [(k, d)])))) (getS S1 i)
/-- the names are good -/
structure NmOk (n : Nm) : Prop where
  nd : n.NM.Nodup
  few : n.NM.length < 1000
theorem fm_inj {n : Nm} (h : NmOk n) {i j : Nat} (hi : i < n.NM.length) (hj : j < n.NM.length) (e : n.fm i = n.fm j) : i = j := by
  have e1 : n.NM[i]? = some (n.fm i) := by unfold Nm.fm; rw [List.getD_eq_getElem?_getD, List.getElem?_eq_getElem hi]; rfl
  have e2 : n.NM[j]? = some (n.fm j) := by unfold Nm.fm; rw [List.getD_eq_getElem?_getD, List.getElem?_eq_getElem hj]; rfl
  rw [e] at e1
  exact nd_ix h.nd e1 e2
theorem fm_mem {n : Nm} {i : Nat} (hi : i < n.NM.length) : n.fm i ∈ n.NM := by
  have e1 : n.NM[i]? = some (n.fm i) := by unfold Nm.fm; rw [List.getD_eq_getElem?_getD, List.getElem?_eq_getElem hi]; rfl
  exact List.mem_of_getElem? e1
theorem lookN_none : ∀ {l : List (Nat × D)} {k : Nat}, lookN l k = none → ∀ p ∈ l, p.1 ≠ k
  | [], _, _, p, h => by cases h
  | (i, d) :: r, k, e, p, h => by
    unfold lookN at e
    split at e
    · cases e
    · rename_i q
      rcases List.mem_cons.mp h with rfl | h
      · exact q
      · exact lookN_none e p h
theorem putF_new {f : Str} {v : V} : ∀ {fs : List (Str × V)}, f ∉ fs.map (·.1) → putF f v fs = fs ++ [(f, v)]
  | [], _ => rfl
  | (g, x) :: r, h => by
    have h1 : ¬ g = f := fun e => h (by rw [e]; exact List.mem_cons_self)
    show (if g = f then (g, v) :: r else (g, x) :: putF f v r) = _
    rw [if_neg h1, putF_new (fs := r) fun e => h (List.mem_cons_of_mem _ e)]; rfl
theorem RpX.snoc {n : Nm} {F : Hp} {k : Nat} {d : D} {v : V} : ∀ {l : List (Nat × D)} {fs : List (Str × V)}, RpX n F l fs → Rp n F d v → RpX n F (l ++ [(k, d)]) (fs ++ [(n.fm k, v)])
  | [], _, h, q => by
    rw [show _ = [] from h]
    exact ⟨v, [], rfl, q, rfl⟩
  | (i, d') :: r, _, ⟨w, rr, e, h1, h2⟩, q => by
    subst e
    exact ⟨w, rr ++ [(n.fm k, v)], rfl, h1, RpX.snoc h2 q⟩
theorem lookup_app {fs gs : List (Str × V)} {f : Str} {v : V} (h : fs.lookup f = some v) : (fs ++ gs).lookup f = some v := by
  induction fs with
  | nil => cases h
  | cons p r ih =>
    obtain ⟨g, x⟩ := p
    rw [List.lookup_cons] at h
    rw [List.cons_append, List.lookup_cons]
    split
    · rename_i q; rw [q] at h; exact h
    · rename_i q; rw [q] at h; exact ih h
theorem RpX.keysOk {n : Nm} {F : Hp} {k : Nat} (ok : NmOk n) (hk : k < n.NM.length) {l : List (Nat × D)} {fs : List (Str × V)} (h : RpX n F l fs) (hl : ∀ p ∈ l, p.1 < n.NM.length) (nk : lookN l k = none) : n.fm k ∉ fs.map (·.1) := by
  rw [h.keys]
  intro m
  obtain ⟨p, hp, e⟩ := List.mem_map.mp m
  exact lookN_none nk p hp (fm_inj ok (hl p hp) hk e)
theorem nodup_sub : ∀ {l NM : List Str}, l.Nodup → (∀ x ∈ l, x ∈ NM) → l.length ≤ NM.length
  | [], _, _, _ => Nat.zero_le _
  | x :: r, NM, nd, h => by
    obtain ⟨n1, n2⟩ := List.nodup_cons.mp nd
    have hx := h x (by simp)
    have := nodup_sub (l := r) (NM := NM.erase x) n2 fun y hy => by
      have ne : y ≠ x := fun e => n1 (by rw [← e]; exact hy)
      exact (List.mem_erase_of_ne ne).mpr (h y (by simp [hy]))
    have e := List.length_erase_of_mem hx
    have hp : 0 < NM.length := List.length_pos_of_mem hx
    simp only [List.length_cons]
    omega
section
variable {X : Cx} {z : Z} {e : Expr} {f : Str} {pos pos' : Pos}
theorem je_fld {c k : Nat} {fo : DO} (hz : z.n.K = X.K) (he : JO X z e fo) (hc : Cls X.K (z.n.cm c)) (hn : NoAttr X.K (z.n.cm c) f) (hf : z.n.fm k = f) (hb : attributeBase e f X.env (eval e X.env) = eval e X.env := by rfl) : JE X z (.Attribute e f pos) (dFld c k fo) :=
  JE.of (pe_fld he hb) fun F σ H S R r hf' => tO.use r hf' fun v H1 F1 S1 a x1 r1 h1 q => by
    obtain ⟨d, rv, q1⟩ := h1.view r1 q
    obtain ⟨l, rfl, q2⟩ := onIns.get q1
    obtain ⟨d, e1, q3⟩ := onSome.get q2
    obtain ⟨p, dx, fs, rfl, h2, g, rf⟩ := rv
    obtain ⟨v, e2, h3⟩ := lookN_rp rf e1
    rw [hf] at e2
    exact ⟨p, _, dx, fs, v, rfl, h2, hc, hn, e2, F1, S1, d, x1, r1, h3, q3⟩
/-- the known part may know the object under construction as it is -/
theorem Rep.selfNow {F : Hp} {σ : L2.St} {H : Hp} {S : SS} {i c : Nat} {l : List (Nat × D)} (r : Rep z F σ H S) (h : S[i]? = some (.slf c l)) : ∃ F' a, Ext z.n F F' ∧ Rep z F' σ H S ∧ σ[i]? = some (some (.ref a)) ∧ Rp z.n F' (.ins c l) (.ref a) := by
  obtain ⟨a, dx, fs, e1, p1, h1, ⟨fs0, f0⟩, rx, gd, i0⟩ := r.sl i _ h
  have x : Ext z.n F (upd F a (.ins (z.n.cm c) dx fs)) := fun b u e => by
    by_cases q : b = a
    · subst q
      obtain ⟨u', e', le⟩ := r.ext b u e
      rw [h1] at e'; cases e'
      exact ⟨_, upd_same, le⟩
    · exact ⟨u, by rw [upd_ne q]; exact e, .refl u⟩
  refine ⟨_, a, x, ?_, e1, a, dx, fs, rfl, upd_same, gd, (rx.mono x).rpf gd.1⟩
  refine ⟨fun b u e => ?_, r.keep, fun b u e => ?_, r.len, fun j s hj => ?_, r.pin, r.pi0, fun j b hb => ?_, r.inj⟩
  · by_cases q : b = a
    · subst q; rw [upd_same] at e; cases e; exact ⟨_, h1, .refl _⟩
    · rw [upd_ne q] at e; exact r.ext b u e
  · by_cases q : b = a
    · subst q
      rcases r.new b _ f0 with w | w | ⟨xs, e1, _⟩
      · exact .inl w
      · exact .inr (.inl w)
      · cases e1
    · rw [upd_ne q] at e; exact r.new b u e
  · have q := r.sl j s hj
    cases s with
    | free => trivial
    | val d => obtain ⟨v, e2, h2⟩ := q; exact ⟨v, e2, h2.mono x⟩
    | own c' =>
      obtain ⟨b, e2, f2, n2, c2⟩ := q
      have nb : b ≠ a := fun e => by subst e; rw [f0] at f2; cases f2
      exact ⟨b, e2, by rw [upd_ne nb]; exact f2, n2, c2.mono x fun _ h _ => h⟩
    | slf c' l' =>
      obtain ⟨b, dx', fs', e2, p2, h2, ⟨fs2, f2⟩, rx', gd', j0⟩ := q
      have ij : i = j := by omega
      subst ij
      rw [h] at hj
      cases hj
      rw [e1] at e2; cases e2
      rw [h1] at h2; cases h2
      exact ⟨a, dx, fs, e1, p1, h1, ⟨_, upd_same⟩, rx.mono x, gd, i0⟩
  · rcases r.pf j b hb with q | q
    · refine .inl ?_
      rw [upd_ne (fun e => by rw [e, f0] at q; cases q)]; exact q
    · exact .inr q
theorem je_self {i : Nat} (h : PE X e (tVar i)) : JE X z e (dSelf i) := JE.of h fun F σ H S R r hf => by
  dsimp only [dSelf] at hf
  cases g : getS S i with
  | free => rw [g] at hf; exact hf.elim
  | own c => rw [g] at hf; exact hf.elim
  | val d => rw [g] at hf; exact hf.elim
  | slf c l =>
    rw [g] at hf
    obtain ⟨F', a, x, r', e1, h1⟩ := r.selfNow (getS_some g (by intro x; cases x))
    exact ⟨_, e1, F', S, _, x, r', h1, hf⟩
theorem js_fld {o value : Expr} {i c k m : Nat} {fv : DE} (hz : z.n.K = X.K) (ok : NmOk z.n) (hm : z.n.NM.length = m) (hk : k < m) (ho : PE X o (tVar i)) (hv : JE X z value fv) (hc : Cls X.K (z.n.cm c)) (hn : NoAttr X.K (z.n.cm c) f) (hf : z.n.fm k = f)
    (hs : swapsWith value (some (.Attribute o f pos')) pos.line X.env = pure false := by rfl) : JS X z (.Assign [.Attribute o f pos'] value pos) (sFldN i c k m fv) :=
  JS.of (ps_fld ho hv hs) fun F σ H S E r hf' => by
  subst hm
  exact tE.use r hf' fun y H1 F1 S1 d x1 r1 h1 q => by
    obtain ⟨l, g, hl, nk, q1⟩ := onSlf.get q
    have g1 := getS_some g (by intro x; cases x)
    obtain ⟨a, dx, fs, e1, p1, h2, ⟨fs0, f0⟩, rx, gd, i0⟩ := r1.sl i _ g1
    have hlen : fs.length < 1000 := by
      have := nodup_sub gd.1 gd.2
      rw [List.length_map] at this
      exact Nat.lt_of_le_of_lt this ok.few
    have nk' := rx.keysOk ok hk hl nk
    refine ⟨_, e1, a, _, dx, fs, rfl, h2, hc, hn, hlen, F1, _, x1, ?_, q1⟩
    rw [← hf, putF_new nk']
    have gd2 : Good z.n (fs ++ [(z.n.fm k, y)]) := by
      refine ⟨?_, fun g hg => ?_⟩
      · rw [List.map_append]
        refine List.nodup_append.mpr ⟨gd.1, by simp, fun p hp q hq e => ?_⟩
        simp at hq
        subst hq; subst e
        exact nk' hp
      · rw [List.map_append] at hg
        rcases List.mem_append.mp hg with h | h
        · exact gd.2 g h
        · simp at h
          subst h
          exact fm_mem hk
    have kp : ∀ b u, b ≠ a → H1 b = some u → (upd H1 a (.ins (z.n.cm c) dx (fs ++ [(z.n.fm k, y)]))) b = some u := fun b u n e => by rw [upd_ne n]; exact e
    refine ⟨fun b u e => ?_, fun b u e p => ?_, r1.new, by rw [setS_len, r1.len], fun j t hj => ?_, r1.pin, fun j b hb => ?_, r1.pf, fun j m c1 c2 b hj hm ej em => ?_⟩
    · obtain ⟨u', e', le⟩ := r1.ext b u e
      by_cases q : b = a
      · subst q
        rw [h2] at e'; cases e'
        refine ⟨_, upd_same, le.trans (.inr ⟨_, _, fs, _, rfl, rfl, fun g v h => lookup_app h, gd2⟩)⟩
      · exact ⟨u', kp b u' q e', le⟩
    · refine kp b u (fun q => ?_) (r1.keep b u e p)
      subst q; exact p i p1
    · rcases setS_get hj with ⟨rfl, rfl⟩ | ⟨ne, hj'⟩
      · exact ⟨a, dx, _, e1, p1, upd_same, ⟨fs0, f0⟩, rx.snoc h1, gd2, i0⟩
      · have q := r1.sl j t hj'
        cases t with
        | free => trivial
        | val d => exact q
        | own c2 =>
          obtain ⟨b, e2, f2, n2, c2'⟩ := q
          have nb : b ≠ a := fun e => by subst e; rw [f0] at f2; cases f2
          exact ⟨b, e2, f2, n2, c2'.mono Ext.refl fun o' h' _ => kp b o' nb h'⟩
        | slf c' l' =>
          obtain ⟨b, dx', fs', e2, p2, h2', f2, rx', gd', j0⟩ := q
          exact absurd (show j = i by omega) ne
    · obtain ⟨h3, u, h4, h5⟩ := r1.pi0 j b hb
      refine ⟨h3, ?_⟩
      by_cases q : b = a
      · subst q; exact ⟨_, upd_same, rfl⟩
      · exact ⟨u, kp b u q h4, h5⟩
    · rcases setS_get hj with ⟨rfl, e⟩ | ⟨ne, hj'⟩
      · cases e
      · rcases setS_get hm with ⟨rfl, e⟩ | ⟨ne', hm'⟩
        · cases e
        · exact r1.inj j m c1 c2 b hj' hm' ej em
end
end DL

namespace DL
open PySem L2

inductive Ar where
  | val (d : D) | own (c : Ct)
abbrev SpD := List Ar → (Rs → List Ct → Prop) → Prop
def ArsOk (n : Nm) (F H : Hp) : List Ar → List V → List Addr → Prop
  | [], vs, os => vs = [] ∧ os = []
  | .val d :: as, vs, os => ∃ v r, vs = v :: r ∧ Rp n F d v ∧ ArsOk n F H as r os
  | .own c :: as, vs, os => ∃ a r q, vs = .ref a :: r ∧ os = a :: q ∧ F a = none ∧ CtOk n F H a c ∧ ArsOk n F H as r q
def CtsOk (n : Nm) (F H : Hp) : List Addr → List Ct → Prop
  | [], cs => cs = []
  | a :: os, cs => ∃ c r, cs = c :: r ∧ CtOk n F H a c ∧ CtsOk n F H os r
def ROk (n : Nm) (F' H H' : Hp) (v : V) : Rs → Prop
  | .val d => Rp n F' d v
  | .own c => ∃ a, v = .ref a ∧ F' a = none ∧ H a = none ∧ CtOk n F' H' a c
  | .two d l => ∃ a b v1, v = .ref a ∧ H' a = some (.tup [v1, .ref b]) ∧ F' a = none ∧ Rp n F' d v1 ∧ F' b = none ∧ H b = none ∧ CtOk n F' H' b (.lst l)
/-- a def's promise, from its promise by data -/
def spOf (n : Nm) (φ : SpD) : Sp := fun vs H Q _ => ∃ F as os R, Ext n F H ∧ ArsOk n F H as vs os ∧ os.Nodup ∧ φ as R ∧
  ∀ v H' F' r cs, Ext n F F' → Ext n F' H' → (∀ a o, F' a = some o → Nw F H a o) → (∀ a o, H a = some o → a ∉ os → H' a = some o) → CtsOk n F' H' os cs → ROk n F' H H' v r → R r cs → Q v H'
/-- data in, data out -/
@[reducible] def allVal : List D → List Ar
  | [] => []
  | d :: ds => .val d :: allVal ds
@[reducible] def unV : List Ar → (List D → Prop) → Prop
  | [], k => k []
  | .val d :: r, k => unV r fun ds => k (d :: ds)
  | .own _ :: _, _ => False
theorem unV_get : ∀ {as : List Ar} {k : List D → Prop}, unV as k → ∃ ds, as = allVal ds ∧ k ds
  | [], _, h => ⟨[], rfl, h⟩
  | .val d :: r, _, h => by
    obtain ⟨ds, e, q⟩ := unV_get (as := r) h
    exact ⟨d :: ds, by rw [e], q⟩
  | .own _ :: _, _, h => h.elim
@[reducible] def lift0 (φ : List D → (Rs → Prop) → Prop) : SpD := fun as R => unV as fun ds => φ ds fun r => R r []
theorem lift0.get {φ : List D → (Rs → Prop) → Prop} {as : List Ar} {R : Rs → List Ct → Prop} (h : lift0 φ as R) : ∃ ds, as = allVal ds ∧ φ ds fun r => R r [] := unV_get h
/-- the first parameter is an owned object -/
@[reducible] def unO (k : Ct → List Ar → Prop) : List Ar → Prop
  | .own c :: r => k c r
  | _ => False
@[reducible] def lift1 (φ : Ct → List D → (Rs → Ct → Prop) → Prop) : SpD := fun as R => unO (fun c r => unV r fun ds => φ c ds fun r c' => R r [c']) as
theorem lift1.get {φ : Ct → List D → (Rs → Ct → Prop) → Prop} {as : List Ar} {R : Rs → List Ct → Prop} (h : lift1 φ as R) : ∃ c ds, as = .own c :: allVal ds ∧ φ c ds fun r c' => R r [c'] := by
  cases as with
  | nil => exact h.elim
  | cons a r =>
    cases a with
    | val d => exact h.elim
    | own c =>
      obtain ⟨ds, e, q⟩ := unV_get (as := r) h
      exact ⟨c, ds, by rw [e], q⟩
/-- a class's promise: what attributes its __init__ leaves -/
def spI (n : Nm) (c : Nat) (φ : List D → (List (Nat × D) → Prop) → Prop) : Sp := fun vs H Q _ => ∃ F x dx ds ws R, vs = .ref x :: ws ∧ Ext n F H ∧ H x = some (.ins (n.cm c) dx []) ∧ F x = some (.ins (n.cm c) dx []) ∧ Rps n F ds ws ∧ φ ds R ∧
  ∀ H' F' l, Ext n F F' → Ext n F' H' → (∀ a o, F' a = some o → Nw F H a o) → (∀ a o, H a = some o → a ≠ x → H' a = some o) → Rp n F' (.ins c l) (.ref x) → R l → Q .non H'

@[reducible] def res (S : SS) : List Arg → (List Ar → Prop) → Prop
  | [], k => k []
  | .val d :: as, k => res S as fun r => k (.val d :: r)
  | .ref i :: as, k => match getS S i with
    | .val d => res S as fun r => k (.val d :: r)
    | .own c => res S as fun r => k (.own c :: r)
    | _ => False
@[reducible] def ownR (S : SS) : List Arg → List Nat
  | [] => []
  | .val _ :: as => ownR S as
  | .ref i :: as => match getS S i with
    | .own _ => i :: ownR S as
    | _ => ownR S as
@[reducible] def le1 : List Nat → Prop
  | [] => True
  | [_] => True
  | _ => False
@[reducible] def putR (S : SS) : List Nat → List Ct → SS
  | i :: is, c :: cs => putR (setS S i (.own c)) is cs
  | _, _ => S
section
variable {z : Z} {F F' : Hp} {σ : L2.St} {H H' : Hp} {S : SS} {i : Nat} {a : Addr}
/-- an owned object is let go: it may be changed by another -/
theorem Rep.letGo (r : Rep z F σ H S) {c : Ct} {o : HO} (no : ntup o = true) (g : S[i]? = some (.own c)) (ea : σ[i]? = some (some (.ref a))) : Rep z F σ (upd H a o) (setS S i .free) := by
  obtain ⟨a', e1, f1, n1, c1⟩ := r.sl i _ g
  rw [ea] at e1; cases e1
  have kp : ∀ b u, b ≠ a → H b = some u → (upd H a o) b = some u := fun b u n e => by rw [upd_ne n]; exact e
  refine ⟨fun b u e => ?_, fun b u e p => ?_, r.new, by rw [setS_len, r.len], fun j t hj => ?_, r.pin, fun j b hb => ?_, r.pf, fun j k c1 c2 b hj hk ej ek => ?_⟩
  · obtain ⟨u', e', l⟩ := r.ext b u e
    exact ⟨u', kp b u' (fun q => by subst q; rw [f1] at e; cases e) e', l⟩
  · refine kp b u (fun q => ?_) (r.keep b u e p)
    subst q
    rcases n1 with n1 | n1
    · rw [n1] at e; cases e
    · exact p i n1
  · rcases setS_get hj with ⟨rfl, rfl⟩ | ⟨ne, hj'⟩
    · trivial
    · have q := r.sl j t hj'
      cases t with
      | free => trivial
      | val d => exact q
      | own c2 =>
        obtain ⟨b, e2, f2, n2, c2'⟩ := q
        have nb : b ≠ a := fun e' => ne (r.inj j i c2 c b hj' g e2 (by rw [e']; exact ea))
        exact ⟨b, e2, f2, n2, c2'.mono Ext.refl fun o' h' _ => kp b o' nb h'⟩
      | slf k l =>
        obtain ⟨b, dx, fs, e2, p2, h2, ⟨fs0, f2⟩, x2⟩ := q
        have nb : b ≠ a := fun e => by subst e; rw [f1] at f2; cases f2
        exact ⟨b, dx, fs, e2, p2, kp b _ nb h2, ⟨fs0, f2⟩, x2⟩
  · obtain ⟨h1, u, h2, h3⟩ := r.pi0 j b hb
    refine ⟨h1, ?_⟩
    by_cases q : b = a
    · subst q; exact ⟨o, upd_same, no⟩
    · exact ⟨u, kp b u q h2, h3⟩
  · rcases setS_get hj with ⟨rfl, e1⟩ | ⟨ne, hj'⟩
    · cases e1
    · rcases setS_get hk with ⟨rfl, e1⟩ | ⟨ne', hk'⟩
      · cases e1
      · exact r.inj j k c1 c2 b hj' hk' ej ek
theorem setS_set (S : SS) (i : Nat) (s t : Slot) : setS (setS S i s) i t = setS S i t := by
  induction S generalizing i with
  | nil => rfl
  | cons u r ih =>
    cases i with
    | zero => rfl
    | succ i =>
      show u :: setS (setS r i s) i t = u :: setS r i t
      rw [ih]
/-- .. and comes back -/
theorem Rep.comeBack (r : Rep z F σ H (setS S i .free)) {c : Ct} (e : σ[i]? = some (some (.ref a))) (f : F a = none) (n : z.H0 a = none ∨ z.pr i = some a) (h : CtOk z.n F H a c) (ne : ∀ (j : Nat) (c' : Ct), j ≠ i → S[j]? = some (.own c') → σ[j]? ≠ some (some (.ref a))) : Rep z F σ H (setS S i (.own c)) where
  ext := r.ext
  keep := r.keep
  new := r.new
  len := by rw [setS_len]; have := r.len; rw [setS_len] at this; exact this
  sl := fun j t hj => by
    rcases setS_get hj with ⟨rfl, rfl⟩ | ⟨ne, hj'⟩
    · exact ⟨a, e, f, n, h⟩
    · refine r.sl j t ?_
      rw [← setS_set S i (.own c) .free]
      -- slot j is as it was
      have : ∀ {S : SS} {i j : Nat} {s t : Slot}, j ≠ i → S[j]? = some t → (setS S i s)[j]? = some t := by
        intro S
        induction S with
        | nil => intro i j s t _ h; cases h
        | cons u r ih =>
          intro i j s t n h
          cases i with
          | zero =>
            cases j with
            | zero => exact absurd rfl n
            | succ j => exact h
          | succ i =>
            cases j with
            | zero => exact h
            | succ j => exact ih (i := i) (j := j) (by omega) (by simpa using h)
      exact this ne hj
  pin := r.pin
  pi0 := r.pi0
  pf := r.pf
  inj := fun j k c1 c2 b hj hk ej ek => by
    rcases setS_get hj with ⟨rfl, e1⟩ | ⟨nj, hj'⟩
    · rcases setS_get hk with ⟨rfl, e2⟩ | ⟨nk, hk'⟩
      · rfl
      · exfalso
        rw [e] at ej; cases ej
        exact ne k c2 nk hk' ek
    · rcases setS_get hk with ⟨rfl, e2⟩ | ⟨nk, hk'⟩
      · exfalso
        rw [e] at ek; cases ek
        exact ne j c1 nj hj' ej
      · obtain ⟨s1, h1⟩ : ∃ s, (setS S i .free)[j]? = some s := by
          have : j < (setS S i .free).length := by
            obtain ⟨q, _⟩ := List.getElem?_eq_some_iff.mp hj'
            rw [setS_len]; exact q
          exact ⟨_, List.getElem?_eq_getElem this⟩
        have f1 : (setS S i .free)[j]? = some (.own c1) := by
          rw [h1]
          rcases setS_get h1 with ⟨q, _⟩ | ⟨_, q⟩
          · exact absurd q nj
          · rw [hj'] at q; cases q; rfl
        obtain ⟨s2, h2⟩ : ∃ s, (setS S i .free)[k]? = some s := by
          have : k < (setS S i .free).length := by
            obtain ⟨q, _⟩ := List.getElem?_eq_some_iff.mp hk'
            rw [setS_len]; exact q
          exact ⟨_, List.getElem?_eq_getElem this⟩
        have f2 : (setS S i .free)[k]? = some (.own c2) := by
          rw [h2]
          rcases setS_get h2 with ⟨q, _⟩ | ⟨_, q⟩
          · exact absurd q nk
          · rw [hk'] at q; cases q; rfl
        exact r.inj j k c1 c2 b f1 f2 ej ek
/-- what the operands of a call are -/
theorem res_ok (r : Rep z F σ H S) : ∀ {as : List Arg} {vs : List V} {k : List Ar → Prop}, AOks z.n F σ as vs → res S as k → ∃ ars os, ArsOk z.n F H ars vs os ∧ k ars ∧ os.length = (ownR S as).length ∧
    ∀ (j i : Nat), (ownR S as)[j]? = some i → ∃ a c, os[j]? = some a ∧ S[i]? = some (.own c) ∧ σ[i]? = some (some (.ref a))
  | [], _, k, h, q => ⟨[], [], ⟨h, rfl⟩, q, rfl, fun j i e => by simp [ownR] at e⟩
  | .val d :: as, _, k, ⟨v, rr, e, h1, h2⟩, q => by
    obtain ⟨ars, os, o1, o2, o3, o4⟩ := res_ok r h2 q
    exact ⟨.val d :: ars, os, ⟨v, rr, e, h1, o1⟩, o2, o3, o4⟩
  | .ref i :: as, _, k, ⟨v, rr, e, h1, h2⟩, q => by
    dsimp only [res] at q
    have h1' : σ[i]? = some (some v) := h1
    cases g : getS S i with
    | free => rw [g] at q; exact q.elim
    | slf c l => rw [g] at q; exact q.elim
    | val d =>
      rw [g] at q
      obtain ⟨ars, os, o1, o2, o3, o4⟩ := res_ok r h2 q
      obtain ⟨w, e1, r1⟩ := r.sl i _ (getS_some g (by intro x; cases x))
      rw [h1'] at e1; cases e1
      refine ⟨.val d :: ars, os, ⟨v, rr, e, r1, o1⟩, o2, ?_, ?_⟩
      · dsimp only [ownR]; rw [g]; exact o3
      · dsimp only [ownR]; rw [g]; exact o4
    | own c =>
      rw [g] at q
      obtain ⟨ars, os, o1, o2, o3, o4⟩ := res_ok r h2 q
      have g1 := getS_some g (by intro x; cases x)
      obtain ⟨a, e1, f1, n1, c1⟩ := r.sl i _ g1
      rw [h1'] at e1; cases e1
      refine ⟨.own c :: ars, a :: os, ⟨a, rr, os, e, rfl, f1, c1, o1⟩, o2, ?_, ?_⟩
      · dsimp only [ownR]; rw [g]; simp [o3]
      · dsimp only [ownR]; rw [g]
        intro j i' ej
        cases j with
        | zero =>
          have : i = i' := by simpa using ej
          subst this
          exact ⟨a, c, rfl, g1, h1'⟩
        | succ j => exact o4 j i' (by simpa using ej)
/-- behind a call that was handed one owned object at most -/
theorem Rep.called (r : Rep z F σ H S) {is : List Nat} {os : List Addr} {cs : List Ct} (l1 : le1 is) (lo : os.length = is.length) (own : ∀ (j i : Nat), is[j]? = some i → ∃ a c, os[j]? = some a ∧ S[i]? = some (.own c) ∧ σ[i]? = some (some (.ref a)))
    (x : Ext z.n F F') (x' : Ext z.n F' H') (nw : ∀ a o, F' a = some o → Nw F H a o) (kp : ∀ a o, H a = some o → a ∉ os → H' a = some o) (hc : CtsOk z.n F' H' os cs) : Rep z F' σ H' (putR S is cs) := by
  match is, l1, lo, own with
  | [], _, lo, _ =>
    have e : os = [] := List.length_eq_zero_iff.mp lo
    subst e
    exact r.grow x nw (fun a o h => kp a o h (by simp)) x'
  | [i], _, lo, own =>
    obtain ⟨a, c, ea, g, e⟩ := own 0 i rfl
    match os, lo, ea, hc, kp with
    | [a'], _, ea, ⟨c', rr, ec, hcc, hr⟩, kp =>
      have ea' : a' = a := by simpa using ea
      subst ea'
      rw [show rr = [] from hr] at ec
      subst ec
      obtain ⟨o', ho', _, no'⟩ := hcc.ex
      obtain ⟨a2, e2, f2, n2, c2⟩ := r.sl i _ g
      rw [e] at e2; cases e2
      obtain ⟨o0, h0, _, n0⟩ := c2.ex
      have r1 := r.letGo (o := o') no' g e
      have kp1 : ∀ b u, (upd H a' o') b = some u → H' b = some u := fun b u q => by
        by_cases eb : b = a'
        · subst eb; rw [upd_same] at q; cases q; exact ho'
        · rw [upd_ne eb] at q
          exact kp b u q (by simpa using eb)
      have nw1 : ∀ b u, F' b = some u → Nw F (upd H a' o') b u := fun b u q => by
        rcases nw b u q with w | w | ⟨xs, e1, w⟩
        · exact .inl w
        · refine .inr (.inl ?_)
          rw [upd_ne (fun eb => by subst eb; rw [h0] at w; cases w)]; exact w
        · refine .inr (.inr ⟨xs, e1, ?_⟩)
          rw [upd_ne (fun eb => by subst eb; rw [h0] at w; cases w; cases n0)]; exact w
      have r2 := r1.grow x nw1 kp1 x'
      have f' : F' a' = none := by
        cases q : F' a' with
        | none => rfl
        | some u =>
          rcases nw a' u q with ⟨w, hw⟩ | w | ⟨_, _, w⟩
          · rw [f2] at hw; cases hw
          · rw [h0] at w; cases w
          · rw [h0] at w; cases w; cases n0
      refine r2.comeBack e f' n2 hcc fun j c'' nj hj ej => ?_
      exact nj (r.inj j i c'' c a' hj g ej e)
end
def dCall (φ : SpD) (dv : List D) (f : DA) : DE := fun S R => f S fun as S1 => le1 (ownR S1 as) ∧ res S1 as fun ars => φ (ars ++ allVal dv) fun r cs => R r.d (putR S1 (ownR S1 as) cs)
@[reducible] def onOwn (k : Ct → Prop) : Rs → Prop
  | .own c => k c
  | _ => False
def fCall (φ : SpD) (dv : List D) (f : DA) : DF := fun S R => f S fun as S1 => le1 (ownR S1 as) ∧ res S1 as fun ars => φ (ars ++ allVal dv) fun r cs => onOwn (fun c => R c (putR S1 (ownR S1 as) cs)) r
theorem le1_nodup {is : List Nat} {os : List Addr} (h : le1 is) (e : os.length = is.length) : os.Nodup := by
  match is, h with
  | [], _ => rw [List.length_eq_zero_iff.mp e]; simp
  | [_], _ =>
    match os, e with
    | [a], _ => simp
section
variable {n : Nm} {F H : Hp}
theorem ArsOk.vals : ∀ {dv : List D} {dvs : List V}, Rps n F dv dvs → ArsOk n F H (allVal dv) dvs []
  | [], _, h => ⟨h, rfl⟩
  | d :: ds, _, ⟨v, r, e, h1, h2⟩ => ⟨v, r, e, h1, ArsOk.vals h2⟩
theorem ArsOk.app {dv : List D} {dvs : List V} (h : Rps n F dv dvs) : ∀ {as : List Ar} {vs : List V} {os : List Addr}, ArsOk n F H as vs os → ArsOk n F H (as ++ allVal dv) (vs ++ dvs) os
  | [], vs, os, ⟨e1, e2⟩ => by
    subst e1; subst e2
    exact ArsOk.vals h
  | .val d :: as, _, os, ⟨v, r, e, h1, h2⟩ => by
    subst e
    exact ⟨v, r ++ dvs, rfl, h1, h2.app h⟩
  | .own c :: as, _, _, ⟨a, r, q, e, e2, f, h1, h2⟩ => by
    subst e
    exact ⟨a, r ++ dvs, q, rfl, e2, f, h1, h2.app h⟩
end
section
variable {z : Z} {F : Hp} {σ : L2.St} {H : Hp} {S : SS}
theorem call_use {φ : SpD} {dv : List D} {dvs : List V} {as : List Arg} {vs : List V} {R : Rs → List Ct → Prop} {Q : VK} {E : XK} (hdv : Rps z.n F dv dvs) (r : Rep z F σ H S) (ha : AOks z.n F σ as vs) (l1 : le1 (ownR S as)) (hf : res S as fun ars => φ (ars ++ allVal dv) R)
    (k : ∀ v H' F' rr cs, Ext z.n F F' → Rep z F' σ H' (putR S (ownR S as) cs) → RsOk z F' σ H' (putR S (ownR S as) cs) v rr → R rr cs → Q v H') : spOf z.n φ (vs ++ dvs) H Q E := by
  obtain ⟨ars, os, h1, h2, h3, h4⟩ := res_ok r ha hf
  refine ⟨F, ars ++ allVal dv, os, R, r.ext, h1.app hdv, le1_nodup l1 h3, h2, fun v H' F' rr cs x x' nw kp hc hr q => ?_⟩
  have r' := r.called l1 h3 h4 x x' nw kp hc
  refine k v H' F' rr cs x r' ?_ q
  have nee : ∀ a, H a = none → ∀ (i : Nat) (c' : Ct), (putR S (ownR S as) cs)[i]? = some (.own c') → σ[i]? ≠ some (some (.ref a)) := fun a hn i c' hi ei => by
    -- an owned object stood there ahead of the call
    have : ∃ c0, S[i]? = some (.own c0) := by
      have gen : ∀ (is : List Nat) (cs : List Ct) (T : SS), (∀ i ∈ is, ∃ c0, T[i]? = some (.own c0)) → (putR T is cs)[i]? = some (.own c') → ∃ c0, T[i]? = some (.own c0) := by
        intro is
        induction is with
        | nil => intro cs T _ h; cases cs <;> exact ⟨_, h⟩
        | cons j js ih =>
          intro cs T hT h
          cases cs with
          | nil => exact ⟨_, h⟩
          | cons c1 cs =>
            have h' : (putR (setS T j (.own c1)) js cs)[i]? = some (.own c') := h
            obtain ⟨c2, h2⟩ := ih cs (setS T j (.own c1)) (fun i' hi' => by
              obtain ⟨c3, h3⟩ := hT i' (by simp [hi'])
              by_cases e : i' = j
              · subst e
                have hl : i' < (setS T i' (.own c1)).length := by
                  obtain ⟨q, _⟩ := List.getElem?_eq_some_iff.mp h3
                  rw [setS_len]; exact q
                obtain ⟨s, hs⟩ : ∃ s, (setS T i' (.own c1))[i']? = some s := ⟨_, List.getElem?_eq_getElem hl⟩
                rcases setS_get hs with ⟨_, e2⟩ | ⟨q, _⟩
                · exact ⟨c1, by rw [hs, e2]⟩
                · exact absurd rfl q
              · have hl : i' < (setS T j (.own c1)).length := by
                  obtain ⟨q, _⟩ := List.getElem?_eq_some_iff.mp h3
                  rw [setS_len]; exact q
                obtain ⟨s, hs⟩ : ∃ s, (setS T j (.own c1))[i']? = some s := ⟨_, List.getElem?_eq_getElem hl⟩
                rcases setS_get hs with ⟨q, _⟩ | ⟨_, q⟩
                · exact absurd q e
                · rw [h3] at q; cases q; exact ⟨c3, hs⟩) h'
            rcases setS_get h2 with ⟨rfl, _⟩ | ⟨_, q⟩
            · exact hT _ (by simp)
            · exact ⟨c2, q⟩
      refine gen _ cs S (fun i' hi' => ?_) hi
      obtain ⟨j, hj⟩ := List.getElem?_of_mem hi'
      obtain ⟨_, c0, _, h0, _⟩ := h4 j i' hj
      exact ⟨c0, h0⟩
    obtain ⟨c0, h0⟩ := this
    obtain ⟨b, e1, _, _, c1⟩ := r.sl i _ h0
    rw [ei] at e1; cases e1
    obtain ⟨o, ho, _⟩ := c1.ex
    rw [hn] at ho; cases ho
  cases rr with
  | val d => exact hr
  | own c =>
    obtain ⟨a, e, f, hn, hc'⟩ := hr
    exact ⟨a, e, f, r.old hn, hc', nee a hn⟩
  | two d l =>
    obtain ⟨a, b, v1, e, h1', f1, r1, f2, hn, hc'⟩ := hr
    exact ⟨a, b, v1, e, h1', f1, r1, f2, r.old hn, hc', nee b hn⟩
theorem RsOk.bl {F' : Hp} {H' : Hp} {S' : SS} {v : V} {rr : Rs} {b : Bool} (h : RsOk z F' σ H' S' v rr) (e : rr.d = .bl b) : v = .bl b := by
  cases rr with
  | val d => cases (show d = .bl b from e); exact h
  | own c => cases c <;> cases e
  | two d l => cases e
theorem RsOk.val {F' : Hp} {H' : Hp} {S' : SS} {v : V} {rr : Rs} (r' : Rep z F' σ H' S') (h : RsOk z F' σ H' S' v rr) {Q : VK} (k : ∀ F2 H2, Ext z.n F' F2 → Rep z F2 σ H2 S' → Rp z.n F2 rr.d v → Q v H2) :
    Q v H' ∨ ∃ b u, v = .ref b ∧ H' b = some u ∧ Mut (some u) ∧ ∀ ob, Q v (upd H' b (.frz ob u)) := by
  cases rr with
  | val d => exact .inl (k F' H' Ext.refl r' h)
  | own c =>
    obtain ⟨a, e, fr⟩ := h
    subst e
    exact r'.frz fr k
  | two d l =>
    obtain ⟨a, b, v1, rfl, h1, f1, r1, fr⟩ := h
    obtain ⟨xs, e, q⟩ := fr.ct
    have ab : a ≠ b := fun w => by rw [w, e] at h1; cases h1
    have x1 : Ext z.n F' (upd F' b (.lst xs)) := Ext.new fr.out
    have r2 := r'.join e fr.out fr.new fr.ne
    have f2 : (upd F' b (.lst xs)) a = none := by rw [upd_ne ab]; exact f1
    have x2 : Ext z.n (upd F' b (.lst xs)) (upd (upd F' b (.lst xs)) a (.tup [v1, .ref b])) := Ext.new f2
    refine .inl (k _ H' (x1.trans x2) (r2.grow x2 (fun c u w => ?_) (fun c u w => w) fun c u w => ?_) ?_)
    · by_cases g : c = a
      · subst g; rw [upd_same] at w; cases w; exact .inr (.inr ⟨_, rfl, h1⟩)
      · rw [upd_ne g] at w; exact .inl ⟨u, w⟩
    · by_cases g : c = a
      · subst g; rw [upd_same] at w; cases w; exact ⟨_, h1, .refl _⟩
      · rw [upd_ne g] at w; exact r2.ext c u w
    · exact ⟨a, [v1, .ref b], rfl, upd_same, v1, [.ref b], rfl, r1.mono (x1.trans x2), .ref b, [], rfl, ⟨b, xs, rfl, x2.lst upd_same, q.mono (x1.trans x2)⟩, rfl⟩
end
section
variable {X : Cx} {z : Z} {CX : CXT} {k : Nat} {f : Addr} {fd : FuncData} {ps : List Str} {φ : SpD} {dvs : List V} {dv : List D} {ds : List Value} {E : XK} {x m : Str} {p pos apos : Pos} {e o : Expr} {es : List Expr} {fa : DA} {fo : DO}
theorem je_call (F : FnOk X.prog X.w X.K X.mg X.base CX k f fd ps (spOf z.n φ)) (hr : Room k X.A) (hg : Gl X x) (hm : X.mg x = some (.ref f)) (hk : PySem.W.keepIn X.K (.ref f) = true) (hb : Binds X.K fd ps ds) (hd : Vals dvs ds) (hx : Passes CX X E) (hdv : ∀ (_ : Unit) F, Rps z.n F dv dvs)
    (ha : JA X z (e :: es) fa) (hdb : (x == ("__debug__" : Str)) = false := by decide) (he : starEach (e :: es) X.env = (false, eval e X.env) :: starEach es X.env := by rfl) (hpl : (backTo pos (starEach es X.env)).any (·.1) = false := by rfl) :
    JE X z (.Call (.Name x p) (e :: es) [] pos) (dCall φ dv fa) :=
  JE.of (pe_fr (pe_call F hr hg hm hk hb hd hx ha hdb he hpl)) fun F σ H S R r hf => tA.use r hf fun vs H1 F1 S1 as x1 r1 h1 ⟨l1, q⟩ => call_use (hdv () _) r1 h1 l1 q fun v H' F' rr cs x r' ok q' => by
    exact RsOk.val r' ok fun F2 H9 x2 r2 h2 => ⟨F2, _, rr.d, (x1.trans x).trans x2, r2, h2, q'⟩
theorem jf_call (F : FnOk X.prog X.w X.K X.mg X.base CX k f fd ps (spOf z.n φ)) (hr : Room k X.A) (hg : Gl X x) (hm : X.mg x = some (.ref f)) (hk : PySem.W.keepIn X.K (.ref f) = true) (hb : Binds X.K fd ps ds) (hd : Vals dvs ds) (hx : Passes CX X E) (hdv : ∀ (_ : Unit) F, Rps z.n F dv dvs)
    (ha : JA X z (e :: es) fa) (hdb : (x == ("__debug__" : Str)) = false := by decide) (he : starEach (e :: es) X.env = (false, eval e X.env) :: starEach es X.env := by rfl) (hpl : (backTo pos (starEach es X.env)).any (·.1) = false := by rfl) :
    JF X z (.Call (.Name x p) (e :: es) [] pos) (fCall φ dv fa) :=
  JF.of (pe_call F hr hg hm hk hb hd hx ha hdb he hpl) fun F σ H S R r hf => tA.use r hf fun vs H1 F1 S1 as x1 r1 h1 ⟨l1, q⟩ => call_use (hdv () _) r1 h1 l1 q fun v H' F' rr cs x r' ok q' => by
    cases rr with
    | val d => exact q'.elim
    | two d l => exact q'.elim
    | own c =>
      obtain ⟨a, e, fr⟩ := ok
      exact ⟨F', _, c, a, e, x1.trans x, r', fr, q'⟩
/-- o.m(..) of an object of the class nr c -/
def dMeth (c : Nat) (φ : SpD) (dv : List D) (fo : DO) (f : DA) : DE := fun S R => fo S fun o S1 => view S1 (onIns c fun _ => f S1 fun as S2 => le1 (ownR S2 (o :: as)) ∧ res S2 (o :: as) fun ars => φ (ars ++ allVal dv) fun r cs => R r.d (putR S2 (ownR S2 (o :: as)) cs)) o
def fMeth (c : Nat) (φ : SpD) (dv : List D) (fo : DO) (f : DA) : DF := fun S R => fo S fun o S1 => view S1 (onIns c fun _ => f S1 fun as S2 => le1 (ownR S2 (o :: as)) ∧ res S2 (o :: as) fun ars => φ (ars ++ allVal dv) fun r cs => onOwn (fun c => R c (putR S2 (ownR S2 (o :: as)) cs)) r) o
theorem good_no {n : Nm} {fs : List (Str × V)} (g : Good n fs) {m : Str} (h : m ∉ n.NM) : fs.lookup m = none := lookup_none fun q => h (g.2 m q)
theorem je_meth {c : Nat} {pl : Sem Bool} (hz : z.n.K = X.K) (ho : JO X z o fo) (hc : Cls X.K (z.n.cm c)) (hm : Meth X.K (z.n.cm c) m f) (F : FnOk X.prog X.w X.K X.mg X.base CX k f fd ps (spOf z.n φ)) (hr : Room k X.A) (hb : Binds X.K fd ps ds) (hd : Vals dvs ds) (hx : Passes CX X E) (hdv : ∀ (_ : Unit) F, Rps z.n F dv dvs) (hno : m ∉ z.n.NM) (ha : JA X z (e :: es) fa)
    (hst : starEach (e :: es) X.env = (false, eval e X.env) :: starEach es X.env := by rfl) (hpl : (backTo pos (starEach es X.env)).any (·.1) = false := by rfl)
    (ht : eval (.Call (.Attribute o m apos) (e :: es) [] pos) X.env = (do
      let ov ← eval o X.env
      standAt apos.atName
      let (f, first) ← holding [ov] (getMethod ov m pl)
      callWith pos f first (backTo pos (starEach (e :: es) X.env)) (backToKw pos (keywordEach [] X.env))) := by rfl) :
    JE X z (.Call (.Attribute o m apos) (e :: es) [] pos) (dMeth c φ dv fo fa) :=
  JE.of (pe_fr (pe_meth ho hc hm F hr hb hd hx ha hst hpl ht)) fun F σ H S R r hf => tO.use r hf fun v H1 F1 S1 ao x1 r1 h1 q => by
    obtain ⟨d, rv, q1⟩ := h1.view r1 q
    obtain ⟨l, rfl, q2⟩ := onIns.get q1
    obtain ⟨a, dx, fs, rfl, h2, g, _⟩ := rv
    refine ⟨a, dx, fs, rfl, h2, good_no g hno, tA.use r1 q2 fun vs H2 F2 S2 as x2 r2 h3 ⟨l1, q3⟩ => ?_⟩
    exact call_use (vs := .ref a :: vs) (hdv () _) r2 (as := ao :: as) ⟨_, _, rfl, h1.mono x2, h3⟩ l1 q3 fun v H' F' rr cs x r' ok q' => by
      exact RsOk.val r' ok fun F3 H9 x3 r3 h4 => ⟨F3, _, rr.d, ((x1.trans x2).trans x).trans x3, r3, h4, q'⟩
theorem jf_meth {c : Nat} {pl : Sem Bool} (hz : z.n.K = X.K) (ho : JO X z o fo) (hc : Cls X.K (z.n.cm c)) (hm : Meth X.K (z.n.cm c) m f) (F : FnOk X.prog X.w X.K X.mg X.base CX k f fd ps (spOf z.n φ)) (hr : Room k X.A) (hb : Binds X.K fd ps ds) (hd : Vals dvs ds) (hx : Passes CX X E) (hdv : ∀ (_ : Unit) F, Rps z.n F dv dvs) (hno : m ∉ z.n.NM) (ha : JA X z (e :: es) fa)
    (hst : starEach (e :: es) X.env = (false, eval e X.env) :: starEach es X.env := by rfl) (hpl : (backTo pos (starEach es X.env)).any (·.1) = false := by rfl)
    (ht : eval (.Call (.Attribute o m apos) (e :: es) [] pos) X.env = (do
      let ov ← eval o X.env
      standAt apos.atName
      let (f, first) ← holding [ov] (getMethod ov m pl)
      callWith pos f first (backTo pos (starEach (e :: es) X.env)) (backToKw pos (keywordEach [] X.env))) := by rfl) :
    JF X z (.Call (.Attribute o m apos) (e :: es) [] pos) (fMeth c φ dv fo fa) :=
  JF.of (pe_meth ho hc hm F hr hb hd hx ha hst hpl ht) fun F σ H S R r hf => tO.use r hf fun v H1 F1 S1 ao x1 r1 h1 q => by
    obtain ⟨d, rv, q1⟩ := h1.view r1 q
    obtain ⟨l, rfl, q2⟩ := onIns.get q1
    obtain ⟨a, dx, fs, rfl, h2, g, _⟩ := rv
    refine ⟨a, dx, fs, rfl, h2, good_no g hno, tA.use r1 q2 fun vs H2 F2 S2 as x2 r2 h3 ⟨l1, q3⟩ => ?_⟩
    exact call_use (vs := .ref a :: vs) (hdv () _) r2 (as := ao :: as) ⟨_, _, rfl, h1.mono x2, h3⟩ l1 q3 fun v H' F' rr cs x r' ok q' => by
      cases rr with
      | val d => exact q'.elim
      | two d l => exact q'.elim
      | own c =>
        obtain ⟨b, e, fr⟩ := ok
        exact ⟨F', _, c, b, e, (x1.trans x2).trans x, r', fr, q'⟩
theorem je_meth0 {c : Nat} {pl : Sem Bool} (hz : z.n.K = X.K) (ho : JO X z o fo) (hc : Cls X.K (z.n.cm c)) (hm : Meth X.K (z.n.cm c) m f) (F : FnOk X.prog X.w X.K X.mg X.base CX k f fd ps (spOf z.n φ)) (hr : Room k X.A) (hb : Binds X.K fd ps ds) (hd : Vals dvs ds) (hx : Passes CX X E) (hdv : ∀ (_ : Unit) F, Rps z.n F dv dvs) (hno : m ∉ z.n.NM)
    (ht : eval (.Call (.Attribute o m apos) [] [] pos) X.env = (do
      let ov ← eval o X.env
      standAt apos.atName
      let (f, first) ← holding [ov] (getMethod ov m pl)
      callWith pos f first (backTo pos (starEach [] X.env)) (backToKw pos (keywordEach [] X.env))) := by rfl) :
    JE X z (.Call (.Attribute o m apos) [] [] pos) (dMeth c φ dv fo aNil) :=
  JE.of (pe_fr (pe_meth0 ho hc hm F hr hb hd hx ht)) fun F σ H S R r hf => tO.use r hf fun v H1 F1 S1 ao x1 r1 h1 q => by
    obtain ⟨d, rv, q1⟩ := h1.view r1 q
    obtain ⟨l, rfl, l1, q3⟩ := onIns.get q1
    obtain ⟨a, dx, fs, rfl, h2, g, _⟩ := rv
    refine ⟨a, dx, fs, rfl, h2, good_no g hno, ?_⟩
    exact call_use (E := E) (vs := [.ref a]) (hdv () _) r1 (as := [ao]) ⟨_, _, rfl, h1, rfl⟩ l1 q3 fun v H' F' rr cs x r' ok q' => by
      exact RsOk.val r' ok fun F3 H9 x3 r3 h4 => ⟨F3, _, rr.d, (x1.trans x).trans x3, r3, h4, q'⟩
theorem jf_meth0 {c : Nat} {pl : Sem Bool} (hz : z.n.K = X.K) (ho : JO X z o fo) (hc : Cls X.K (z.n.cm c)) (hm : Meth X.K (z.n.cm c) m f) (F : FnOk X.prog X.w X.K X.mg X.base CX k f fd ps (spOf z.n φ)) (hr : Room k X.A) (hb : Binds X.K fd ps ds) (hd : Vals dvs ds) (hx : Passes CX X E) (hdv : ∀ (_ : Unit) F, Rps z.n F dv dvs) (hno : m ∉ z.n.NM)
    (ht : eval (.Call (.Attribute o m apos) [] [] pos) X.env = (do
      let ov ← eval o X.env
      standAt apos.atName
      let (f, first) ← holding [ov] (getMethod ov m pl)
      callWith pos f first (backTo pos (starEach [] X.env)) (backToKw pos (keywordEach [] X.env))) := by rfl) :
    JF X z (.Call (.Attribute o m apos) [] [] pos) (fMeth c φ dv fo aNil) :=
  JF.of (pe_meth0 ho hc hm F hr hb hd hx ht) fun F σ H S R r hf => tO.use r hf fun v H1 F1 S1 ao x1 r1 h1 q => by
    obtain ⟨d, rv, q1⟩ := h1.view r1 q
    obtain ⟨l, rfl, l1, q3⟩ := onIns.get q1
    obtain ⟨a, dx, fs, rfl, h2, g, _⟩ := rv
    refine ⟨a, dx, fs, rfl, h2, good_no g hno, ?_⟩
    exact call_use (E := E) (vs := [.ref a]) (hdv () _) r1 (as := [ao]) ⟨_, _, rfl, h1, rfl⟩ l1 q3 fun v H' F' rr cs x r' ok q' => by
      cases rr with
      | val d => exact q'.elim
      | two d l => exact q'.elim
      | own c =>
        obtain ⟨b, e, fr⟩ := ok
        exact ⟨F', _, c, b, e, x1.trans x, r', fr, q'⟩
/-- C(..) -/
def dMake (c : Nat) (φ : List D → (List (Nat × D) → Prop) → Prop) (f : DV) : DE := fun S R => f S fun ds S1 => φ ds fun l => R (.ins c l) S1
theorem je_make {c : Nat} {C : Addr} {φ : List D → (List (Nat × D) → Prop) → Prop} {fv : DV} (hC : z.n.cm c = C) (M : Mk X.K C f) (F : FnOk X.prog X.w X.K X.mg X.base CX k f fd ps (spI z.n c φ)) (hr : Room (k + 1) X.A) (hg : Gl X x) (hm : X.mg x = some (.ref C)) (hb : Binds X.K fd ps []) (hx : Passes CX X E)
    (ha : JV X z (e :: es) fv) (hdb : (x == ("__debug__" : Str)) = false := by decide) (he : starEach (e :: es) X.env = (false, eval e X.env) :: starEach es X.env := by rfl) (hpl : (backTo pos (starEach es X.env)).any (·.1) = false := by rfl) :
    JE X z (.Call (.Name x p) (e :: es) [] pos) (dMake c φ fv) :=
  JE.of (pe_make M F hr hg hm hb .nil hx ha hdb he hpl) fun F σ H S R r hf => tV.use r hf fun vs H1 F1 S1 dd x1 r1 h1 q => by
    intro o dx no ndx ne
    subst hC
    have xF : Ext z.n F1 (upd F1 o (.ins (z.n.cm c) dx [])) := Ext.new (r1.ext.free no)
    have xH : ∀ a u, H1 a = some u → a ≠ o ∧ a ≠ dx := fun a u h => ⟨ne_of_none h no, ne_of_none h ndx⟩
    refine ⟨upd F1 o (.ins (z.n.cm c) dx []), o, dx, dd, vs, _, by rw [List.append_nil], ?_, upd_same, upd_same, h1.mono xF, q, fun H' F' l x x' nw kp hl q' => ⟨rfl, ?_⟩⟩
    · intro a u h
      by_cases e : a = o
      · subst e; rw [upd_same] at h; cases h; exact ⟨_, upd_same, .refl _⟩
      · rw [upd_ne e] at h
        obtain ⟨u', h', le⟩ := r1.ext a u h
        exact ⟨u', by rw [upd_ne e, upd_ne (xH a u' h').2]; exact h', le⟩
    · refine ⟨F', S1, .ins c l, x1.trans (xF.trans x), r1.grow (xF.trans x) (fun a u h => ?_) (fun a u h => ?_) x', hl, q'⟩
      · rcases nw a u h with ⟨o0, h0⟩ | h0 | ⟨xs, e3, h0⟩
        · by_cases e : a = o
          · subst e; exact .inr (.inl no)
          · rw [upd_ne e] at h0; exact .inl ⟨o0, h0⟩
        · by_cases e : a = o
          · subst e; exact .inr (.inl no)
          · by_cases e2 : a = dx
            · subst e2; exact .inr (.inl ndx)
            · rw [upd_ne e, upd_ne e2] at h0; exact .inr (.inl h0)
        · by_cases e : a = o
          · subst e; exact .inr (.inl no)
          · by_cases e2 : a = dx
            · subst e2; exact .inr (.inl ndx)
            · rw [upd_ne e, upd_ne e2] at h0; exact .inr (.inr ⟨xs, e3, h0⟩)
      · obtain ⟨n1, n2⟩ := xH a u h
        exact kp a u (by rw [upd_ne n1, upd_ne n2]; exact h) n1
end
end DL

namespace DL
open PySem L2 PyProof.Rows

@[reducible] def freeS : Nat → SS
  | 0 => []
  | m + 1 => .free :: freeS m
@[reducible] def startS : Nat → List D → SS
  | m, [] => freeS m
  | 0, _ :: _ => []
  | m + 1, d :: ds => .val d :: startS m ds
@[reducible] def prOwn (a : Addr) : Nat → Option Addr
  | 0 => some a
  | _ + 1 => none
@[reducible] def prNo : Nat → Option Addr := fun _ => none
@[reducible] def onOwnS (k : Ct → Prop) : Slot → Prop
  | .own c => k c
  | _ => False
theorem onOwnS.get {k : Ct → Prop} : ∀ {s : Slot}, onOwnS k s → ∃ c, s = .own c ∧ k c
  | .own c, h => ⟨c, rfl, h⟩
  | .free, h => h.elim
  | .val _, h => h.elim
  | .slf _ _, h => h.elim
theorem start_len {N : List Str} {vs : List V} (h : vs.length ≤ N.length) : (L2.start N vs).length = N.length := by
  unfold L2.start
  rw [List.length_append, List.length_map, List.length_replicate]; omega
theorem freeS_get : ∀ {m i : Nat} {s : Slot}, (freeS m)[i]? = some s → s = .free
  | 0, _, _, h => by cases h
  | m + 1, 0, s, h => (Option.some.inj h).symm
  | m + 1, i + 1, s, h => freeS_get (m := m) (i := i) (by simpa using h)
theorem freeS_len : ∀ m : Nat, (freeS m).length = m
  | 0 => rfl
  | m + 1 => by show (freeS m).length + 1 = m + 1; rw [freeS_len m]
theorem startS_len : ∀ {m : Nat} {ds : List D}, ds.length ≤ m → (startS m ds).length = m
  | m, [], _ => by unfold startS; exact freeS_len m
  | 0, _ :: _, h => by simp at h
  | m + 1, d :: ds, h => by
    show (startS m ds).length + 1 = m + 1
    rw [startS_len (by simpa using h)]
theorem start_get {N : List Str} {vs : List V} {i : Nat} {v : V} (h : vs[i]? = some v) : (L2.start N vs)[i]? = some (some v) := by
  unfold L2.start
  obtain ⟨q, e⟩ := List.getElem?_eq_some_iff.mp h
  rw [List.getElem?_append_left (by rw [List.length_map]; exact q), List.getElem?_map, h]; rfl
theorem startS_get {n : Nm} {F : Hp} : ∀ {m : Nat} {ds : List D} {vs : List V} {i : Nat} {s : Slot}, Rps n F ds vs → (startS m ds)[i]? = some s → s = .free ∨ ∃ d v, s = .val d ∧ vs[i]? = some v ∧ Rp n F d v
  | m, [], _, i, s, _, h => .inl (by unfold startS at h; exact freeS_get h)
  | 0, _ :: _, _, i, s, _, h => by simp [startS] at h
  | m + 1, d :: ds, _, 0, s, ⟨v, r, e, h1, h2⟩, h => by
    subst e
    exact .inr ⟨d, v, (Option.some.inj h).symm, rfl, h1⟩
  | m + 1, d :: ds, _, i + 1, s, ⟨v, r, e, h1, h2⟩, h => by
    subst e
    rcases startS_get (m := m) (i := i) h2 (by simpa using h) with q | ⟨d', w, q1, q2, q3⟩
    · exact .inl q
    · exact .inr ⟨d', w, q1, by simpa using q2, q3⟩
theorem Rep.start0 {n : Nm} {F H : Hp} {N : List Str} {ds : List D} {vs : List V} (x : Ext n F H) (h : Rps n F ds vs) (hl : vs.length ≤ N.length) : Rep ⟨n, F, H, prNo⟩ F (L2.start N vs) H (startS N.length ds) where
  ext := x
  keep := fun a o h _ => h
  new := fun a o h => .inl ⟨o, h⟩
  len := by rw [start_len hl, startS_len (by rw [← h.length]; exact hl)]
  sl := fun i s hs => by
    rcases startS_get h hs with rfl | ⟨d, v, rfl, e, q⟩
    · trivial
    · exact ⟨v, start_get e, q⟩
  pin := fun i a h => by cases h
  pi0 := fun i a h => by cases h
  pf := fun i a h => by cases h
  inj := fun i j c c' a hi hj _ _ => by
    rcases startS_get h hi with e | ⟨d, v, e, _⟩ <;> cases e
theorem ArsOk.get_vals {n : Nm} {F H : Hp} : ∀ {ds : List D} {vs : List V} {os : List Addr}, ArsOk n F H (allVal ds) vs os → Rps n F ds vs ∧ os = []
  | [], _, _, ⟨h1, h2⟩ => ⟨h1, h2⟩
  | d :: ds, _, _, ⟨v, r, e, h1, h2⟩ => by
    obtain ⟨a, b⟩ := ArsOk.get_vals h2
    exact ⟨⟨v, r, e, h1, a⟩, b⟩
section
variable {P : Program} {w : World} {K : PySem.W.Frag} {mg : Str → Option Value} {base : Heap} {x qual : Str} {st : Stmt} {f : Addr} {fd : FuncData} {N ps : List Str} {k : Nat} {n : Nm} {g : DS}
theorem FnScope_le {N ps : List Str} {sc : Scope} (S : FnScope N ps sc) : ps.length ≤ N.length := by
  have e := congrArg List.length S.pre
  rw [List.length_take] at e
  omega
/-- a def whose arguments are data -/
theorem fn_ok0 {φ : List D → (Rs → Prop) → Prop} (F : Fun K x qual st f fd) (Sc : FnScope N ps (defScope st)) (len : ∀ ds R, φ ds R → ds.length = ps.length)
    (body : ∀ (cdv : Value) (A : Around) (outer : List Env) (s : Shared) (H : Hp) (E : XK) (F0 : Hp), Room k (A.deeper (envOfC qual (defScope st) s.heap.objs.size f cdv)) →
      JB (cxOf CX0 P w K mg base N qual (defScope st) f cdv A outer s H E).nox ⟨n, F0, H, prNo⟩ (defBody st) g)
    (sem : ∀ ds R, φ ds R → g { nx := fun _ => R (.val .non), rt := fun r _ => R r } (startS N.length ds)) : FnOk P w K mg base CX0 (k + 1) f fd ps (spOf n (lift0 φ)) := by
  have L : ∀ vs H Q E, spOf n (lift0 φ) vs H Q E → vs.length = ps.length := fun vs H Q E ⟨F, as, os, R, _, h1, _, hh, _⟩ => by
    obtain ⟨ds, e, h2⟩ := lift0.get hh
    subst e
    rw [h1.get_vals.1.length]; exact len _ _ h2
  refine F.ok Sc L fun cdv A outer s H vs Q E hr hsp => ⟨_, body cdv A outer s H E hsp.choose hr, ?_⟩
  have hL := L vs H Q E hsp
  obtain ⟨as, os, R, x, h1, nd, hh, hk⟩ := hsp.choose_spec
  obtain ⟨ds, e, h2⟩ := lift0.get hh
  generalize hsp.choose = F0 at *
  subst e
  obtain ⟨hd, eo⟩ := h1.get_vals
  subst eo
  refine ⟨F0, startS N.length ds, _, Rep.start0 x hd (by rw [hL]; exact (FnScope_le Sc)), sem ds _ h2, ⟨fun σ' H' ⟨F', S', x', r', q⟩ => ?_, fun v H' ⟨F', σ', S', rr, x', r', ok, q⟩ => ?_, fun σ' H' ⟨F', S', x', r', q⟩ => q.elim, fun σ' H' ⟨F', S', x', r', q⟩ => q.elim⟩⟩
  · exact hk _ H' F' (.val .non) [] x' r'.ext r'.new (fun a o h _ => r'.keep a o h fun i e => by cases e) rfl rfl q
  · refine hk _ H' F' rr [] x' r'.ext r'.new (fun a o h _ => r'.keep a o h fun i e => by cases e) rfl ?_ q
    cases rr with
    | val d => exact ok
    | own c =>
      obtain ⟨a, e, fr⟩ := ok
      exact ⟨a, e, fr.out, fr.new, fr.ct⟩
    | two d l =>
      obtain ⟨a, b, v1, e, h1, f1, r1, fr⟩ := ok
      exact ⟨a, b, v1, e, h1, f1, r1, fr.out, fr.new, fr.ct⟩
/-- a def whose first parameter is an owned object -/
theorem fn_ok1 {φ : Ct → List D → (Rs → Ct → Prop) → Prop} (F : Fun K x qual st f fd) (Sc : FnScope N ps (defScope st)) (len : ∀ c ds R, φ c ds R → ds.length + 1 = ps.length)
    (body : ∀ (cdv : Value) (A : Around) (outer : List Env) (s : Shared) (H : Hp) (E : XK) (F0 : Hp) (a : Addr), Room k (A.deeper (envOfC qual (defScope st) s.heap.objs.size f cdv)) →
      JB (cxOf CX0 P w K mg base N qual (defScope st) f cdv A outer s H E).nox ⟨n, F0, H, prOwn a⟩ (defBody st) g)
    (sem : ∀ c ds R, φ c ds R → g { nx := fun S => onOwnS (fun c' => R (.val .non) c') (getS S 0), rt := fun r S => onOwnS (fun c' => R r c') (getS S 0) } (.own c :: startS (N.length - 1) ds)) : FnOk P w K mg base CX0 (k + 1) f fd ps (spOf n (lift1 φ)) := by
  have L : ∀ vs H Q E, spOf n (lift1 φ) vs H Q E → vs.length = ps.length := fun vs H Q E ⟨F, as, os, R, _, h1, _, hh, _⟩ => by
    obtain ⟨c, ds, e, h2⟩ := lift1.get hh
    subst e
    obtain ⟨a, r, q, e1, e2, f1, c1, h3⟩ := h1
    subst e1
    rw [List.length_cons, h3.get_vals.1.length]; exact len _ _ _ h2
  have spl : ∀ vs H Q E, spOf n (lift1 φ) vs H Q E → ∃ F0 a, ∃ (ws : List V) (c : Ct) (ds : List D) (R : Rs → List Ct → Prop), vs = .ref a :: ws ∧ Ext n F0 H ∧ F0 a = none ∧ CtOk n F0 H a c ∧ Rps n F0 ds ws ∧ φ c ds (fun r c' => R r [c']) ∧
      ∀ v H' F' r cs, Ext n F0 F' → Ext n F' H' → (∀ a o, F' a = some o → Nw F0 H a o) → (∀ b o, H b = some o → b ∉ [a] → H' b = some o) → CtsOk n F' H' [a] cs → ROk n F' H H' v r → R r cs → Q v H' := fun vs H Q E ⟨F, as, os, R, x, h1, nd, hh, hk⟩ => by
    obtain ⟨c, ds, e, h2⟩ := lift1.get hh
    subst e
    obtain ⟨a, r, q, e1, e2, f1, c1, h3⟩ := h1
    subst e1
    obtain ⟨h4, eo⟩ := h3.get_vals
    subst eo
    subst e2
    exact ⟨F, a, r, c, ds, R, rfl, x, f1, c1, h4, h2, hk⟩
  refine F.ok Sc L fun cdv A outer s H vs Q E hr hsp => ⟨_, body cdv A outer s H E (spl vs H Q E hsp).choose (spl vs H Q E hsp).choose_spec.choose hr, ?_⟩
  have hL := L vs H Q E hsp
  obtain ⟨ws, c, ds, R, e1, x, f1, c1, h4, h2, hk⟩ := (spl vs H Q E hsp).choose_spec.choose_spec
  generalize (spl vs H Q E hsp).choose_spec.choose = a at *
  generalize (spl vs H Q E hsp).choose = F0 at *
  subst e1
  have hN := (FnScope_le Sc)
  have hl : ws.length + 1 ≤ N.length := by rw [List.length_cons] at hL; omega
  obtain ⟨o, ho, _, nt⟩ := c1.ex
  have sget : ∀ (i : Nat) (t : Slot), (Slot.own c :: startS (N.length - 1) ds)[i]? = some t → (i = 0 ∧ t = .own c) ∨ t = .free ∨ ∃ d v, t = .val d ∧ (V.ref a :: ws)[i]? = some v ∧ Rp n F0 d v := fun i t ht => by
    cases i with
    | zero => exact .inl ⟨rfl, (Option.some.inj ht).symm⟩
    | succ i =>
      rcases startS_get h4 (by simpa using ht) with q | ⟨d, v, q1, q2, q3⟩
      · exact .inr (.inl q)
      · exact .inr (.inr ⟨d, v, q1, by simpa using q2, q3⟩)
  have r0 : Rep ⟨n, F0, H, prOwn a⟩ F0 (L2.start N (.ref a :: ws)) H (.own c :: startS (N.length - 1) ds) := by
    refine ⟨x, fun b u h _ => h, fun b u h => .inl ⟨u, h⟩, ?_, fun i t ht => ?_, fun i b hb => ?_, fun i b hb => ?_, fun i b hb => ?_, fun i j c1' c2' b hi hj _ _ => ?_⟩
    · rw [start_len (by rw [List.length_cons]; exact hl), List.length_cons, startS_len (by rw [← h4.length]; omega)]; omega
    · rcases sget i t ht with ⟨rfl, rfl⟩ | rfl | ⟨d, v, rfl, q1, q2⟩
      · exact ⟨a, start_get rfl, f1, .inr rfl, c1⟩
      · trivial
      · exact ⟨v, start_get q1, q2⟩
    · cases i with
      | zero => cases hb; exact start_get rfl
      | succ i => cases hb
    · cases i with
      | zero => cases hb; exact ⟨⟨o, ho⟩, o, ho, nt⟩
      | succ i => cases hb
    · cases i with
      | zero => cases hb; exact .inl f1
      | succ i => cases hb
    · rcases sget i _ hi with ⟨rfl, _⟩ | e | ⟨d, v, e, _⟩
      · rcases sget j _ hj with ⟨rfl, _⟩ | e | ⟨d, v, e, _⟩
        · rfl
        · cases e
        · cases e
      · cases e
      · cases e
  have fin : ∀ {F' : Hp} {σ' : L2.St} {H' : Hp} {S' : SS} {rr : Rs} {v : V}, Ext n F0 F' → Rep ⟨n, F0, H, prOwn a⟩ F' σ' H' S' → ROk n F' H H' v rr → onOwnS (fun c' => R rr [c']) (getS S' 0) → Q v H' := fun {F' σ' H' S' rr v} x' r' ok q => by
    obtain ⟨c', g, q'⟩ := onOwnS.get q
    obtain ⟨b, e2, f2, n2, c2⟩ := r'.sl 0 _ (getS_some g (by intro x; cases x))
    have e3 := r'.pin 0 a rfl
    rw [e2] at e3; cases e3
    exact hk v H' F' rr [c'] x' r'.ext r'.new (fun b u h hb => r'.keep b u h fun i e => by
      cases i with
      | zero => cases e; exact hb (by simp)
      | succ i => cases e) ⟨c', [], rfl, c2, rfl⟩ ok q'
  refine ⟨F0, _, _, r0, sem c ds _ h2, ⟨fun σ' H' ⟨F', S', x', r', q⟩ => ?_, fun v H' ⟨F', σ', S', rr, x', r', ok, q⟩ => ?_, fun σ' H' ⟨F', S', x', r', q⟩ => q.elim, fun σ' H' ⟨F', S', x', r', q⟩ => q.elim⟩⟩
  · exact fin (rr := .val .non) x' r' rfl q
  · refine fin x' r' ?_ q
    cases rr with
    | val d => exact ok
    | own c =>
      obtain ⟨b, e, fr⟩ := ok
      exact ⟨b, e, fr.out, fr.new, fr.ct⟩
    | two d l =>
      obtain ⟨a, b, v1, e, h1, f1, r1, fr⟩ := ok
      exact ⟨a, b, v1, e, h1, f1, r1, fr.out, fr.new, fr.ct⟩
/-- an __init__ -/
theorem fn_okI {c : Nat} {φ : List D → (List (Nat × D) → Prop) → Prop} (F : Fun K x qual st f fd) (Sc : FnScope N ps (defScope st)) (len : ∀ ds R, φ ds R → ds.length + 1 = ps.length)
    (body : ∀ (cdv : Value) (A : Around) (outer : List Env) (s : Shared) (H : Hp) (E : XK) (F0 : Hp) (a : Addr), Room k (A.deeper (envOfC qual (defScope st) s.heap.objs.size f cdv)) →
      JB (cxOf CX0 P w K mg base N qual (defScope st) f cdv A outer s H E).nox ⟨n, F0, H, prOwn a⟩ (defBody st) g)
    (sem : ∀ ds R, φ ds R → g { nx := fun S => onSlf c R (getS S 0), rt := fun _ _ => False } (.slf c [] :: startS (N.length - 1) ds)) : FnOk P w K mg base CX0 (k + 1) f fd ps (spI n c φ) := by
  have L : ∀ vs H Q E, spI n c φ vs H Q E → vs.length = ps.length := fun vs H Q E ⟨F, x, dx, ds, ws, R, e, _, _, _, h4, h2, _⟩ => by
    subst e
    rw [List.length_cons, h4.length]; exact len _ _ h2
  have spl : ∀ vs H Q E, spI n c φ vs H Q E → ∃ F0 x, ∃ (dx : Addr) (ds : List D) (ws : List V) (R : List (Nat × D) → Prop), vs = .ref x :: ws ∧ Ext n F0 H ∧ H x = some (.ins (n.cm c) dx []) ∧ F0 x = some (.ins (n.cm c) dx []) ∧ Rps n F0 ds ws ∧ φ ds R ∧
      ∀ H' F' l, Ext n F0 F' → Ext n F' H' → (∀ a o, F' a = some o → Nw F0 H a o) → (∀ a o, H a = some o → a ≠ x → H' a = some o) → Rp n F' (.ins c l) (.ref x) → R l → Q .non H' := fun vs H Q E h => h
  refine F.ok Sc L fun cdv A outer s H vs Q E hr hsp => ⟨_, body cdv A outer s H E (spl vs H Q E hsp).choose (spl vs H Q E hsp).choose_spec.choose hr, ?_⟩
  have hL := L vs H Q E hsp
  obtain ⟨dx, ds, ws, R, e1, x, hx, fx, h4, h2, hk⟩ := (spl vs H Q E hsp).choose_spec.choose_spec
  generalize (spl vs H Q E hsp).choose_spec.choose = a at *
  generalize (spl vs H Q E hsp).choose = F0 at *
  subst e1
  have hN := (FnScope_le Sc)
  have hl : ws.length + 1 ≤ N.length := by rw [List.length_cons] at hL; omega
  have sget : ∀ (i : Nat) (t : Slot), (Slot.slf c [] :: startS (N.length - 1) ds)[i]? = some t → (i = 0 ∧ t = .slf c []) ∨ t = .free ∨ ∃ d v, t = .val d ∧ (V.ref a :: ws)[i]? = some v ∧ Rp n F0 d v := fun i t ht => by
    cases i with
    | zero => exact .inl ⟨rfl, (Option.some.inj ht).symm⟩
    | succ i =>
      rcases startS_get h4 (by simpa using ht) with q | ⟨d, v, q1, q2, q3⟩
      · exact .inr (.inl q)
      · exact .inr (.inr ⟨d, v, q1, by simpa using q2, q3⟩)
  have gd0 : Good n [] := ⟨by simp, fun f h => by simp at h⟩
  have r0 : Rep ⟨n, F0, H, prOwn a⟩ F0 (L2.start N (.ref a :: ws)) H (.slf c [] :: startS (N.length - 1) ds) := by
    refine ⟨x, fun b u h _ => h, fun b u h => .inl ⟨u, h⟩, ?_, fun i t ht => ?_, fun i b hb => ?_, fun i b hb => ?_, fun i b hb => ?_, fun i j c1' c2' b hi hj _ _ => ?_⟩
    · rw [start_len (by rw [List.length_cons]; exact hl), List.length_cons, startS_len (by rw [← h4.length]; omega)]; omega
    · rcases sget i t ht with ⟨rfl, rfl⟩ | rfl | ⟨d, v, rfl, q1, q2⟩
      · exact ⟨a, dx, [], start_get rfl, rfl, hx, ⟨[], fx⟩, rfl, gd0, rfl⟩
      · trivial
      · exact ⟨v, start_get q1, q2⟩
    · cases i with
      | zero => cases hb; exact start_get rfl
      | succ i => cases hb
    · cases i with
      | zero => cases hb; exact ⟨⟨_, hx⟩, _, hx, rfl⟩
      | succ i => cases hb
    · cases i with
      | zero => cases hb; exact .inr ⟨_, fx⟩
      | succ i => cases hb
    · rcases sget i _ hi with ⟨rfl, e⟩ | e | ⟨d, v, e, _⟩ <;> cases e
  refine ⟨F0, _, _, r0, sem ds _ h2, ⟨fun σ' H' ⟨F', S', x', r', q⟩ => ?_, fun v H' ⟨F', σ', S', rr, x', r', ok, q⟩ => q.elim, fun σ' H' ⟨F', S', x', r', q⟩ => q.elim, fun σ' H' ⟨F', S', x', r', q⟩ => q.elim⟩⟩
  obtain ⟨l, g, q'⟩ := onSlf.get q
  obtain ⟨F2, b, x2, r2, e2, h5⟩ := r'.selfNow (getS_some g (by intro x; cases x))
  have e3 := r'.pin 0 a rfl
  rw [e2] at e3; cases e3
  exact hk H' F2 l (x'.trans x2) r2.ext r2.new (fun b u h hb => r2.keep b u h fun i e => by
    cases i with
    | zero => cases e; exact hb rfl
    | succ i => cases e) h5 q'
end
end DL

namespace DL
open PySem L2 PyProof.Rows

@[reducible] def tyName : D → Option String
  | .non => some "NoneType"
  | .bl _ => some "bool"
  | .int _ => some "int"
  | .str _ => some "str"
  | .tup _ => some "tuple"
  | .lst _ => some "list"
  | .dK _ => some "dict"
  | .dT _ => none
  | .scr _ => some "list"
  | .stt => some "tuple"
  | .ins _ _ => none
theorem tyx_of {n : Nm} {F H : Hp} {K : PySem.W.Frag} (hz : n.K = K) (x : Ext n F H) : ∀ {d : D} {v : V} {T : String}, Rv n F H d v → tyName d = some T → TyX K H v (.type T)
  | .non, v, T, h, e => by cases e; rw [show v = .non from h]; exact .base .non
  | .bl b, v, T, h, e => by cases e; rw [show v = .bl b from h]; exact .base (.bl b)
  | .int i, v, T, h, e => by cases e; rw [show v = .int i from h]; exact .base (.int i)
  | .str s, v, T, h, e => by cases e; rw [show v = .str s from h]; exact .base (.str s)
  | .tup l, v, T, ⟨a, xs, ev, h, _⟩, e => by
    cases e; subst ev
    exact .base (.tup (x.at h rfl))
  | .lst l, v, T, ⟨a, xs, ev, h, _⟩, e => by cases e; subst ev; exact .base (.lst h)
  | .dK l, v, T, ⟨a, xs, ev, h, _⟩, e => by
    cases e; subst ev
    rcases h with h | ⟨ob, h⟩
    · exact .base (.dK h)
    · exact .fDict h
  | .dT _, v, T, h, e => by cases e
  | .scr l, v, T, ⟨a, ev, h⟩, e => by
    cases e; subst ev
    rcases x.sqL h with (h | ⟨o, h⟩) | ⟨o, its, m, h, c, _⟩
    · exact .base (.lst h)
    · exact .base (.frz h)
    · rw [hz] at h; exact .kList h c
  | .stt, v, T, ⟨a, ev, h⟩, e => by
    cases e; subst ev
    rcases h with (h | ⟨o, h⟩) | ⟨o, its, m, h, c, _⟩
    · cases h
    · cases h
    · rw [hz] at h; exact .kTuple h c
  | .ins _ _, v, T, h, e => by cases e
/-- the answers, by types' names -/
@[reducible] def isiT (T : String) : D → Option Bool
  | .non => some false
  | .bl _ => some (T == "bool" || T == "int")
  | .int _ => some (T == "int")
  | .str _ => some (T == "str")
  | .tup _ => some (T == "tuple")
  | .lst _ => some (T == "list")
  | .dK _ => some (T == "dict")
  | .dT _ => none
  | .scr _ => some (T == "list")
  | .stt => some (T == "tuple")
  | .ins _ _ => none
def dIsi (T : String) (f : DO) : DE := fun S R => f S fun a S1 => view S1 (fun d => onSome (fun b => R (.bl b) S1) (isiT T d)) a
/-- what the kit says of the type T -/
structure IsiOk (T : String) : Prop where
  non : kitB "NoneType" T = some false
  bl : kitB "bool" T = some (T == "bool" || T == "int")
  int : kitB "int" T = some (T == "int")
  str : kitB "str" T = some (T == "str")
  tup : kitB "tuple" T = some (T == "tuple")
  lst : kitB "list" T = some (T == "list")
  dct : kitB "dict" T = some (T == "dict")
theorem isi_int : IsiOk "int" := ⟨by decide +kernel, by decide +kernel, by decide +kernel, by decide +kernel, by decide +kernel, by decide +kernel, by decide +kernel⟩
theorem isi_bool : IsiOk "bool" := ⟨by decide +kernel, by decide +kernel, by decide +kernel, by decide +kernel, by decide +kernel, by decide +kernel, by decide +kernel⟩
theorem isi_list : IsiOk "list" := ⟨by decide +kernel, by decide +kernel, by decide +kernel, by decide +kernel, by decide +kernel, by decide +kernel, by decide +kernel⟩
theorem isi_tuple : IsiOk "tuple" := ⟨by decide +kernel, by decide +kernel, by decide +kernel, by decide +kernel, by decide +kernel, by decide +kernel, by decide +kernel⟩
theorem isi_dict : IsiOk "dict" := ⟨by decide +kernel, by decide +kernel, by decide +kernel, by decide +kernel, by decide +kernel, by decide +kernel, by decide +kernel⟩
theorem isi_name {T : String} (k : IsiOk T) {d : D} {b : Bool} (h : isiT T d = some b) : ∃ U, tyName d = some U ∧ kitB U T = some b := by
  cases d <;> first | cases h | skip
  · exact ⟨_, rfl, k.non⟩
  · exact ⟨_, rfl, k.bl⟩
  · exact ⟨_, rfl, k.int⟩
  · exact ⟨_, rfl, k.str⟩
  · exact ⟨_, rfl, k.tup⟩
  · exact ⟨_, rfl, k.lst⟩
  · exact ⟨_, rfl, k.dct⟩
  · exact ⟨_, rfl, k.lst⟩
  · exact ⟨_, rfl, k.tup⟩
section
variable {X : Cx} {z : Z} {e e2 : Expr} {fo : DO} {T : String} {p pos : Pos}
theorem je_isi (k : IsiOk T) (hz : z.n.K = X.K) (hx : JO X z e fo) (hT : PE X e2 (tC (.ty T))) (hg : Gl X "isinstance") (hm : X.mg "isinstance" = none) (hv : bootBuiltins "isinstance" = some (.builtin "isinstance") := by decide +kernel)
    (h1 : starEach [e2] X.env = (false, eval e2 X.env) :: starEach [] X.env := by rfl) (he : starEach [e, e2] X.env = (false, eval e X.env) :: starEach [e2] X.env := by rfl) (hpl : (backTo pos (starEach [e2] X.env)).any (·.1) = false := by rfl) :
    JE X z (.Call (.Name "isinstance" p) [e, e2] [] pos) (dIsi T fo) :=
  JE.of (pe_callB call_isi hg hm hv (pa_cons hx (pa_cons hT pa_nil h1) he) (he := he) (hpl := hpl)) fun F σ H S R r hf => tO.use r hf fun v H1 F1 S1 a x1 r1 ha q => by
    obtain ⟨d, rv, q1⟩ := ha.view r1 q
    obtain ⟨b, eb, q2⟩ := onSome.get q1
    obtain ⟨U, eU, kb⟩ := isi_name k eb
    exact ⟨v, .ty T, .type U, .type T, b, rfl, .ty T, tyx_of hz r1.ext rv eU, kit_ty kb, F1, S1, .bl b, x1, r1, rfl, q2⟩
end
@[reducible] def pick {α : Type} (ix : List Nat) (ws : List α) : List α := ix.filterMap fun j => ws[j]?
theorem Rps.pick {n : Nm} {F : Hp} {ds : List D} {ws : List V} (h : Rps n F ds ws) : ∀ ix : List Nat, Rps n F (DL.pick ix ds) (DL.pick ix ws)
  | [] => rfl
  | j :: ix => by
    have ih := Rps.pick h ix
    unfold DL.pick at ih ⊢
    rw [List.filterMap_cons, List.filterMap_cons]
    cases e : ds[j]? with
    | none =>
      have e2 : ws[j]? = none := by
        rw [List.getElem?_eq_none_iff] at e ⊢
        rw [h.length]; exact e
      rw [e2]; exact ih
    | some d =>
      obtain ⟨v, e2, q⟩ := h.get e
      rw [e2]
      exact ⟨v, _, rfl, q, ih⟩
theorem Vals.pick {vs : List V} {us : List Value} (h : Vals vs us) : ∀ ix : List Nat, Vals (DL.pick ix vs) (DL.pick ix us)
  | [] => .nil
  | j :: ix => by
    have ih := Vals.pick h ix
    unfold DL.pick at ih ⊢
    rw [List.filterMap_cons, List.filterMap_cons]
    cases e : vs[j]? with
    | none => rw [L2.Vals.none_of h e]; exact ih
    | some d =>
      obtain ⟨u, e2, q⟩ := L2.Vals.get h e
      rw [e2]; exact .cons q ih
/-- how such a call binds -/
structure KwB (K : PySem.W.Frag) (fd : FuncData) (ps : List Str) (n : Nat) (ks : List Str) (ix : List Nat) : Prop where
  to : ∀ (s : Shared) (us ws : List Value), K.In s.heap → us.length = n → ws.length = ks.length → BindsTo s fd ⟨us, ks.zip ws⟩ (ps.zip (us ++ pick ix ws))
theorem _root_.L2.Fun.kw {K : PySem.W.Frag} {x qual : Str} {st : Stmt} {f : Addr} {fd : FuncData} {ps ks : List Str} {n : Nat} {ix : List Nat} (F : Fun K x qual st f fd)
    (h : ∀ (kV doc pm : Value) (an : Option Addr) (cdv ct : Value) (us ws : List Value), us.length = n → ws.length = ks.length → bindArgs (PySem.W.fnOf x qual (defArgs st) (defBody st) (defScope st) .none kV doc pm an cdv ct) ⟨us, ks.zip ws⟩ = pure (ps.zip (us ++ pick ix ws))) : KwB K fd ps n ks ix := by
  obtain ⟨oc, od, kV, doc, pm, an, cdv, ct, osl, rfl, lk, hcd⟩ := F.ex
  exact ⟨fun s us ws _ h1 h2 => .of_eq (h kV doc pm an cdv ct us ws h1 h2)⟩
def tCallW (n m : Nat) (sp : Sp) (ix : List Nat) (E : XK) (t tk : TA) : TE := fun σ H Q => t σ H fun vs H1 => tk σ H1 fun zs H2 => vs.length = n ∧ zs.length = m ∧ sp (vs ++ pick ix zs) H2 Q E
def tMethW (C : Addr) (m : Str) (j : Nat) (sp : Sp) (ix : List Nat) (E : XK) (to : TE) (tk : TA) : TE := fun σ H Q => to σ H fun x H1 => ∃ a dx fs, x = .ref a ∧ H1 a = some (.ins C dx fs) ∧ fs.lookup m = none ∧ tk σ H1 fun zs H2 => zs.length = j ∧ sp ([x] ++ pick ix zs) H2 Q E
section
variable {X : Cx} {CX : CXT} {k : Nat} {f C : Addr} {fd : FuncData} {ps ks : List Str} {sp : Sp} {E : XK} {x m : Str} {p pos apos kpos : Pos} {e o : Expr} {es : List Expr} {kws : List Keyword} {to : TE} {t tk : TA} {ix : List Nat} {n : Nat}
theorem run_kw {pins : List (Addr × Obj)} {σ : L2.St} {H : Hp} {s : Shared} {Q : VK} {us ws : List Value} {vs zs : List V} (F : FnOk X.prog X.w X.K X.mg X.base CX k f fd ps sp) (hr : Room k X.A) (hb : KwB X.K fd ps n ks ix) (hx : Passes CX X E)
    (I : L2.Inv X pins σ H s) (r : Vals vs us) (rz : Vals zs ws) (l0 : vs.length = n) (l : zs.length = ks.length) (h : sp (vs ++ pick ix zs) H Q E) : wpAny (model X.prog X.w) X.A (call (.ref f) us (ks.zip ws)) (EP X pins σ Q) X.xe s := by
  have r2 : Vals (vs ++ pick ix zs) (us ++ pick ix ws) := L2.Vals.append r (Vals.pick rz ix)
  refine wpAny_call (codeAny_mono (F.run X.A X.stack s H ⟨us, ks.zip ws⟩ (us ++ pick ix ws) (vs ++ pick ix zs) Q E hr I.env0 (hb.to s us ws I.kIn (r.length.symm.trans l0) (rz.length.symm.trans l)) r2 h) fun r s' hq => ?_)
  cases r with
  | error e => exact hx pins σ H s e s' I hq
  | ok fl =>
    cases fl with
    | ret u => exact I.after hq
    | next => exact False.elim hq
    | brk => exact False.elim hq
    | cont => exact False.elim hq
theorem pe_callW0 (F : FnOk X.prog X.w X.K X.mg X.base CX k f fd ps sp) (hr : Room k X.A) (hg : Gl X x) (hm : X.mg x = some (.ref f)) (hk : PySem.W.keepIn X.K (.ref f) = true) (hb : KwB X.K fd ps 0 ks ix) (hx : Passes CX X E)
    (hkw : PK X kws tk) (hall : (backToKw pos (keywordEach kws X.env)).all (·.1.isSome) = true := by rfl) (hks : (backToKw pos (keywordEach kws X.env)).filterMap (·.1) = ks := by rfl)
    (hdb : (x == ("__debug__" : Str)) = false := by decide) (hpl : ((backTo pos (starEach [] X.env)).any (·.1) || (backToKw pos (keywordEach kws X.env)).any (·.1.isNone)) = false := by rfl) :
    PE X (.Call (.Name x p) [] kws pos) (tCallW 0 ks.length sp ix E tNil tk) := by
  refine ⟨fun pins s σ H Q I h => ?_⟩
  refine wpAny_Call_Name_kw (ld_glob I hg hm ?_ hdb)
  refine PySem.W.callWith_KW0 (h₀ := X.base) I.ok.mod.kin hk hall ?_ hpl
  refine thn (hkw.run pos pins s σ H _ I h) fun ws s2 ⟨zs, H2, I2, rz, l1, l2, q2⟩ => ⟨I2.kIn, ?_⟩
  rw [hks]
  exact run_kw (us := []) (vs := []) F hr hb hx I2 .nil rz rfl l2 q2
theorem pe_callW (F : FnOk X.prog X.w X.K X.mg X.base CX k f fd ps sp) (hr : Room k X.A) (hg : Gl X x) (hm : X.mg x = some (.ref f)) (hk : PySem.W.keepIn X.K (.ref f) = true) (hb : KwB X.K fd ps n ks ix) (hx : Passes CX X E)
    (ha : PA X (e :: es) t) (hkw : PK X kws tk) (hall : (backToKw pos (keywordEach kws X.env)).all (·.1.isSome) = true := by rfl) (hks : (backToKw pos (keywordEach kws X.env)).filterMap (·.1) = ks := by rfl)
    (hdb : (x == ("__debug__" : Str)) = false := by decide) (he : starEach (e :: es) X.env = (false, eval e X.env) :: starEach es X.env := by rfl)
    (hpl : ((backTo pos (starEach (e :: es) X.env)).any (·.1) || (backToKw pos (keywordEach kws X.env)).any (·.1.isNone)) = false := by rfl) :
    PE X (.Call (.Name x p) (e :: es) kws pos) (tCallW n ks.length sp ix E t tk) := by
  refine ⟨fun pins s σ H Q I h => ?_⟩
  refine wpAny_Call_Name_kw (ld_glob I hg hm ?_ hdb)
  refine PySem.W.callWith_KW (h₀ := X.base) I.ok.mod.kin hk hall (thn (ha.run pos pins s σ H _ I h) fun us s1 ⟨vs, H1, I1, r, q⟩ => ?_) hpl he
  refine thn (hkw.run pos pins s1 σ H1 _ I1 q) fun ws s2 ⟨zs, H2, I2, rz, l1, l2, q2⟩ => ⟨I2.kIn, ?_⟩
  rw [hks]
  exact run_kw F hr hb hx I2 r rz l1 l2 q2
theorem pe_methW0 {pl : Sem Bool} (he : PE X o to) (c : Cls X.K C) (hm : Meth X.K C m f) (F : FnOk X.prog X.w X.K X.mg X.base CX k f fd ps sp) (hr : Room k X.A) (hb : KwB X.K fd ps 1 ks ix) (hx : Passes CX X E) (hkw : PK X kws tk)
    (hall : (backToKw pos (keywordEach kws X.env)).all (·.1.isSome) = true := by rfl) (hks : (backToKw pos (keywordEach kws X.env)).filterMap (·.1) = ks := by rfl)
    (hpl : ((backTo pos (starEach [] X.env)).any (·.1) || (backToKw pos (keywordEach kws X.env)).any (·.1.isNone)) = false := by rfl)
    (ht : eval (.Call (.Attribute o m apos) [] kws pos) X.env = (do
      let ov ← eval o X.env
      standAt apos.atName
      let (f, first) ← holding [ov] (getMethod ov m pl)
      callWith pos f first (backTo pos (starEach [] X.env)) (backToKw pos (keywordEach kws X.env))) := by rfl) :
    PE X (.Call (.Attribute o m apos) [] kws pos) (tMethW C m ks.length sp ix E to tk) := by
  refine ⟨fun pins s σ H Q I h => ?_⟩
  refine PySem.W.methodCall_KW (pl := pl) (thn (he.run pins s σ H _ I h) fun u s1 ⟨x, H1, I1, rx, a, dx, fs, ex, ea, l, q⟩ => ?_) ht
  subst ex
  obtain rfl : u = Value.ref a := rx
  refine getmeth_ok I1 ea c hm l ?_
  refine PySem.W.callWith_KW0 (h₀ := X.base) I1.ok.mod.kin hm.kp hall ?_ hpl
  refine thn (hkw.run pos pins s1 σ H1 _ I1 q) fun ws s2 ⟨zs, H2, I2, rz, l2, q2⟩ => ⟨I2.kIn, ?_⟩
  rw [hks]
  exact run_kw (us := [.ref a]) (vs := [.ref a]) F hr hb hx I2 (.cons rfl .nil) rz rfl l2 q2
end
/-- the keywords' values -/
def JK (X : Cx) (z : Z) (kws : List Keyword) (f : DV) : Prop := PK X kws (tV z f)
theorem JK.of {X : Cx} {z : Z} {kws : List Keyword} {t : TA} {f : DV} (h : PK X kws t) (s : ∀ F σ H S R, Rep z F σ H S → f S R → t σ H (PostV z F σ R)) : JK X z kws f :=
  ⟨fun pos pins st σ H Q I ⟨F, S, R, r, hf, k⟩ => thn (h.run pos pins st σ H _ I (s F σ H S R r hf)) fun _ _ ⟨vs, H', I', r, q⟩ => ⟨vs, H', I', r, k _ _ q⟩⟩
theorem AOks.length {n : Nm} {F : Hp} {σ : L2.St} : ∀ {as : List Arg} {vs : List V}, AOks n F σ as vs → vs.length = as.length
  | [], _, h => by rw [show _ = [] from h]; rfl
  | a :: as, _, ⟨v, r, e, h1, h2⟩ => by rw [e, List.length_cons, List.length_cons, AOks.length h2]
theorem AOks.mono {n : Nm} {F F' : Hp} {σ : L2.St} (x : Ext n F F') : ∀ {as : List Arg} {vs : List V}, AOks n F σ as vs → AOks n F' σ as vs
  | [], _, h => h
  | a :: as, _, ⟨v, r, e, h1, h2⟩ => ⟨v, r, e, h1.mono x, AOks.mono x h2⟩
section
variable {X : Cx} {z : Z} {CX : CXT} {k : Nat} {f : Addr} {fd : FuncData} {ps ks : List Str} {φ : SpD} {E : XK} {x m : Str} {p pos apos kpos : Pos} {e o : Expr} {es : List Expr} {kws : List Keyword} {fo : DO} {fa : DA} {fk : DV} {ix : List Nat} {nm : Option Str} {n : Nat}
theorem jk_nil : JK X z [] vNil := JK.of pk_nil fun F σ H S R r hf => ⟨F, S, [], Ext.refl, r, rfl, hf⟩
theorem jk_cons {f : DE} {g : DV} (h : JE X z e f) (k : JK X z kws g) : JK X z (⟨nm, e, kpos⟩ :: kws) (vCons f g) :=
  JK.of (pk_cons h k) fun F σ H S R r hf => tE.use r hf fun v H1 F1 S1 d x1 r1 h1 q => tV.use r1 q fun vs H2 F2 S2 ds x2 r2 h2 q2 => ⟨F2, S2, d :: ds, x1.trans x2, r2, ⟨v, vs, rfl, h1.mono x2, h2⟩, q2⟩
def dCallW (n m : Nat) (φ : SpD) (ix : List Nat) (f : DA) (g : DV) : DE := fun S R => f S fun as S1 => g S1 fun ds S2 => as.length = n ∧ ds.length = m ∧ le1 (ownR S2 as) ∧ res S2 as fun ars => φ (ars ++ allVal (pick ix ds)) fun r cs => R r.d (putR S2 (ownR S2 as) cs)
def dMethW (c : Nat) (m : Nat) (φ : SpD) (ix : List Nat) (fo : DO) (g : DV) : DE := fun S R => fo S fun o S1 => view S1 (onIns c fun _ => g S1 fun ds S2 => ds.length = m ∧ le1 (ownR S2 [o]) ∧ res S2 [o] fun ars => φ (ars ++ allVal (pick ix ds)) fun r cs => R r.d (putR S2 (ownR S2 [o]) cs)) o
theorem je_callW (F : FnOk X.prog X.w X.K X.mg X.base CX k f fd ps (spOf z.n φ)) (hr : Room k X.A) (hg : Gl X x) (hm : X.mg x = some (.ref f)) (hk : PySem.W.keepIn X.K (.ref f) = true) (hb : KwB X.K fd ps n ks ix) (hx : Passes CX X E)
    (ha : JA X z (e :: es) fa) (hkw : JK X z kws fk) (hall : (backToKw pos (keywordEach kws X.env)).all (·.1.isSome) = true := by rfl) (hks : (backToKw pos (keywordEach kws X.env)).filterMap (·.1) = ks := by rfl)
    (hdb : (x == ("__debug__" : Str)) = false := by decide) (he : starEach (e :: es) X.env = (false, eval e X.env) :: starEach es X.env := by rfl)
    (hpl : ((backTo pos (starEach (e :: es) X.env)).any (·.1) || (backToKw pos (keywordEach kws X.env)).any (·.1.isNone)) = false := by rfl) {j : Nat} (hj : ks.length = j := by rfl) :
    JE X z (.Call (.Name x p) (e :: es) kws pos) (dCallW n j φ ix fa fk) := hj ▸
  JE.of (pe_fr (pe_callW F hr hg hm hk hb hx ha hkw hall hks hdb he hpl)) fun F σ H S R r hf => tA.use r hf fun vs H1 F1 S1 as x1 r1 h1 q => tV.use r1 q fun zs H2 F2 S2 ds x2 r2 h2 ⟨el0, el, l1, q2⟩ => ⟨by rw [AOks.length h1]; exact el0, by rw [h2.length]; exact el, call_use (h2.pick ix) r2 (AOks.mono x2 h1) l1 q2 fun v H' F' rr cs x r' ok q' => by
    exact RsOk.val r' ok fun F3 H9 x3 r3 h4 => ⟨F3, _, rr.d, ((x1.trans x2).trans x).trans x3, r3, h4, q'⟩⟩
theorem je_callW0 (F : FnOk X.prog X.w X.K X.mg X.base CX k f fd ps (spOf z.n φ)) (hr : Room k X.A) (hg : Gl X x) (hm : X.mg x = some (.ref f)) (hk : PySem.W.keepIn X.K (.ref f) = true) (hb : KwB X.K fd ps 0 ks ix) (hx : Passes CX X E)
    (hkw : JK X z kws fk) (hall : (backToKw pos (keywordEach kws X.env)).all (·.1.isSome) = true := by rfl) (hks : (backToKw pos (keywordEach kws X.env)).filterMap (·.1) = ks := by rfl)
    (hdb : (x == ("__debug__" : Str)) = false := by decide) (hpl : ((backTo pos (starEach [] X.env)).any (·.1) || (backToKw pos (keywordEach kws X.env)).any (·.1.isNone)) = false := by rfl) {j : Nat} (hj : ks.length = j := by rfl) :
    JE X z (.Call (.Name x p) [] kws pos) (dCallW 0 j φ ix aNil fk) := hj ▸
  JE.of (pe_fr (pe_callW0 F hr hg hm hk hb hx hkw hall hks hdb hpl)) fun F σ H S R r hf => tV.use r hf fun zs H2 F2 S2 ds x2 r2 h2 ⟨el0, el, l1, q2⟩ => ⟨rfl, by rw [h2.length]; exact el, call_use (vs := []) (as := []) (h2.pick ix) r2 rfl l1 q2 fun v H' F' rr cs x r' ok q' => by
    exact RsOk.val r' ok fun F3 H9 x3 r3 h4 => ⟨F3, _, rr.d, (x2.trans x).trans x3, r3, h4, q'⟩⟩
theorem je_methW0 {c : Nat} {pl : Sem Bool} (hz : z.n.K = X.K) (ho : JO X z o fo) (hc : Cls X.K (z.n.cm c)) (hm : Meth X.K (z.n.cm c) m f) (F : FnOk X.prog X.w X.K X.mg X.base CX k f fd ps (spOf z.n φ)) (hr : Room k X.A) (hb : KwB X.K fd ps 1 ks ix) (hx : Passes CX X E) (hno : m ∉ z.n.NM) (hkw : JK X z kws fk)
    (hall : (backToKw pos (keywordEach kws X.env)).all (·.1.isSome) = true := by rfl) (hks : (backToKw pos (keywordEach kws X.env)).filterMap (·.1) = ks := by rfl)
    (hpl : ((backTo pos (starEach [] X.env)).any (·.1) || (backToKw pos (keywordEach kws X.env)).any (·.1.isNone)) = false := by rfl)
    (ht : eval (.Call (.Attribute o m apos) [] kws pos) X.env = (do
      let ov ← eval o X.env
      standAt apos.atName
      let (f, first) ← holding [ov] (getMethod ov m pl)
      callWith pos f first (backTo pos (starEach [] X.env)) (backToKw pos (keywordEach kws X.env))) := by rfl) {j : Nat} (hj : ks.length = j := by rfl) :
    JE X z (.Call (.Attribute o m apos) [] kws pos) (dMethW c j φ ix fo fk) := hj ▸
  JE.of (pe_fr (pe_methW0 ho hc hm F hr hb hx hkw hall hks hpl ht)) fun F σ H S R r hf => tO.use r hf fun v H1 F1 S1 ao x1 r1 h1 q => by
    obtain ⟨d, rv, q1⟩ := h1.view r1 q
    obtain ⟨l, rfl, q2⟩ := onIns.get q1
    obtain ⟨a, dx, fs, rfl, h2, g, _⟩ := rv
    refine ⟨a, dx, fs, rfl, h2, good_no g hno, tV.use r1 q2 fun zs H2 F2 S2 ds x2 r2 h3 ⟨el, l1, q3⟩ => ⟨by rw [h3.length]; exact el, ?_⟩⟩
    exact call_use (E := E) (vs := [.ref a]) (as := [ao]) (h3.pick ix) r2 ⟨_, _, rfl, h1.mono x2, rfl⟩ l1 q3 fun v H' F' rr cs x r' ok q' => by
      exact RsOk.val r' ok fun F3 H9 x3 r3 h4 => ⟨F3, _, rr.d, ((x1.trans x2).trans x).trans x3, r3, h4, q'⟩
end
end DL

namespace DL
open PySem L2 PyProof.Rows

theorem prAll {pr : Nat → Option Addr} {vs : List Nat} (h : (vs.all fun i => (pr i).isNone) = true) : ∀ i ∈ vs, pr i = none := fun i hi => by
  have := List.all_eq_true.mp h i hi
  exact Option.isNone_iff_eq_none.mp this
/-- a name's value, as a value from now on -/
def dMv (i : Nat) : DE := fun S R => match getS S i with
  | .val d => R d S
  | .own c => R c.d (setS S i (.val c.d))
  | _ => False
theorem list_set_self {l : L2.St} {i : Nat} {x : Option V} (h : l[i]? = some x) : l.set i x = l := by
  apply List.ext_getElem?
  intro j
  rw [st_set]
  by_cases e : i = j
  · subst e
    obtain ⟨q, _⟩ := List.getElem?_eq_some_iff.mp h
    rw [if_pos rfl, if_pos q]; exact h.symm
  · rw [if_neg e]
theorem je_mv {X : Cx} {z : Z} {e : Expr} {i : Nat} (h : PE X e (tVar i)) (p : z.pr i = none) : JE X z e (dMv i) := JE.of (pe_fr h) fun F σ H S R r hf => by
  dsimp only [dMv] at hf
  cases g : getS S i with
  | free => rw [g] at hf; exact hf.elim
  | slf c l => rw [g] at hf; exact hf.elim
  | val d =>
    rw [g] at hf
    obtain ⟨v, e1, r1⟩ := r.sl i _ (getS_some g (by intro x; cases x))
    exact ⟨v, e1, .inl ⟨F, S, d, Ext.refl, r, r1, hf⟩⟩
  | own c =>
    rw [g] at hf
    have g1 := getS_some g (by intro x; cases x)
    obtain ⟨a, e1, f1, n1, c1⟩ := r.sl i _ g1
    have n0 : z.H0 a = none := by
      rcases n1 with n1 | n1
      · exact n1
      · rw [p] at n1; cases n1
    have r1 : Rep z F σ H (setS S i .free) := r.setFree
    have fr : Fresh z σ F H (setS S i .free) c a := ⟨f1, n0, c1, fun j c' hj ej => by
      rcases setS_get hj with ⟨rfl, e⟩ | ⟨ne, hj'⟩
      · cases e
      · exact ne (r.inj j i c' c a hj' g1 ej e1)⟩
    refine ⟨_, e1, r1.frz fr fun F2 H2 x2 r2 h2 => ?_⟩
    have r3 := r2.setVal (i := i) p h2
    rw [list_set_self e1, setS_set] at r3
    exact ⟨F2, _, c.d, x2, r3, h2, hf⟩
/-- l[lo:hi] of any kind -/
def dSl (f : DO) (p q : DP) : DE := fun S R => f S fun a S1 => p S1 fun lo S2 => q S2 fun hi S3 => view S3 (fun d => match d with
  | .lst l => R (.lst (cutD l lo hi)) S3
  | .scr ns => R (.lst ((cutD ns lo hi).map D.int)) S3
  | .tup l => R (.tup (cutD l lo hi)) S3
  | _ => False) a
theorem je_sl {X : Cx} {z : Z} {e : Expr} {lo hi : Option Expr} (hz : z.n.K = X.K) {fo : DO} {fl fh : DP} {p2 pos : Pos} (he : JO X z e fo) (hl : JP X z lo fl) (hh : JP X z hi fh) : JE X z (.Subscript e (.Slice lo hi none p2) pos) (dSl fo fl fh) :=
  JE.of (pe_slice (SlR.or sl_list sl_tupA) he hl hh) fun F σ H S R r hf => tO.use r hf fun v H1 F1 S1 a x1 r1 h1 q1 => tP.use r1 q1 fun o1 H2 F2 S2 x2 r2 q2 => tP.use r2 q2 fun o2 H3 F3 S3 x3 r3 q3 => by
    obtain ⟨d, rv, q4⟩ := (h1.mono (x2.trans x3)).view r3 q3
    cases d with
    | lst l =>
      obtain ⟨p, xs, rfl, hp, s1⟩ := rv
      refine .inl ⟨p, xs, rfl, SqL.of hp, fun p' hp' => ?_⟩
      exact ⟨_, S3, .lst (cutD l o1 o2), ((x1.trans x2).trans x3).trans (Ext.new (r3.ext.free hp')), r3.lay _ hp', ⟨p', _, rfl, upd_same, (s1.cut o1 o2).mono (Ext.new (r3.ext.free hp'))⟩, q4⟩
    | scr ns =>
      obtain ⟨p, rfl, hp⟩ := rv
      refine .inl ⟨p, _, rfl, r3.ext.sqL (hz ▸ hp), fun p' hp' => ?_⟩
      refine ⟨_, S3, .lst ((cutD ns o1 o2).map D.int), ((x1.trans x2).trans x3).trans (Ext.new (r3.ext.free hp')), r3.lay _ hp', ⟨p', _, rfl, upd_same, ?_⟩, q4⟩
      show Rps z.n _ ((cutD ns o1 o2).map D.int) (cutD (ns.map V.int) o1 o2)
      rw [← cut_map]
      exact Rps.of_ints _
    | tup l =>
      obtain ⟨p, xs, rfl, hp, s1⟩ := rv
      refine .inr ⟨p, xs, rfl, SqT.of (r3.ext.at hp rfl), fun hw => ?_, fun hw p' hp' => ?_⟩
      · rw [s1.length] at hw
        refine ⟨F3, S3, .tup (cutD l o1 o2), (x1.trans x2).trans x3, r3, ?_, q4⟩
        rw [cut_whole hw]
        exact ⟨p, xs, rfl, hp, s1⟩
      · exact ⟨_, S3, .tup (cutD l o1 o2), ((x1.trans x2).trans x3).trans (Ext.new (r3.ext.free hp')), r3.lay _ hp', ⟨p', _, rfl, upd_same, (s1.cut o1 o2).mono (Ext.new (r3.ext.free hp'))⟩, q4⟩
    | _ => exact q4.elim
theorem pi_seq {X : Cx} {tg l : Expr} {tl : TE} (hl : PE X l tl) : PI X tg l (fun σ H R => tl σ H fun x H1 => ∃ a, x = .ref a ∧ (((∃ xs, SqL X.K H1 a xs) ∧ R (Itl X.K a) H1) ∨ ((∃ xs, SqT X.K H1 a xs) ∧ R (Itt X.K a) H1))) := by
  refine ⟨fun pins s σ H R I h => ?_⟩
  refine thn (hl.run pins s σ H _ I h) fun v s1 ⟨x, H1, I1, r1, q1⟩ => ?_
  obtain ⟨a, e, q1⟩ := q1
  subst e
  cases r1
  rcases q1 with ⟨⟨xs, hq⟩, q⟩ | ⟨⟨xs, hq⟩, q⟩
  · obtain ⟨its, rv, p, hz⟩ := I1.list hq
    refine wpAny_pyIter_list p.isList ?_
    refine ⟨s1.heap.objs.size, [s1.heap.objs.size], _, _, H1, rfl, I1.kept (t' := s1.toks) fun b o e => Heap.get?_push_of_some _ e, turn_list a _, ⟨_, Heap.get?_push_size _ rfl, rfl, rfl⟩, fun b hb => ?_, q⟩
    have e : b = s1.heap.objs.size := by simpa using hb
    subst e
    exact I1.fpOk (Nat.le_refl _) (I1.hok.fresh (Nat.le_refl _))
  · obtain ⟨its, rv, p, hz⟩ := I1.tuple hq
    refine wpAny_pyIter_tuple (show s1.heap.IsTuple a its.toArray from p) ?_
    refine ⟨s1.heap.objs.size, [s1.heap.objs.size], _, _, H1, rfl, I1.kept (t' := s1.toks) fun b o e => Heap.get?_push_of_some _ e, turn_tuple a _, ⟨_, Heap.get?_push_size _ rfl, rfl, rfl⟩, fun b hb => ?_, q⟩
    have e : b = s1.heap.objs.size := by simpa using hb
    subst e
    exact I1.fpOk (Nat.le_refl _) (I1.hok.fresh (Nat.le_refl _))
def wS (f : DE) : DI := fun S R => f S fun d S' => match d with
  | .lst l => R l S'
  | .tup l => R l S'
  | .scr ns => R (ns.map D.int) S'
  | .stt => R [] S'
  | _ => False
theorem ji_seq {X : Cx} {z : Z} {tg e : Expr} (hz : z.n.K = X.K) {f : DE} (h : JE X z e f) : JI X z tg e (wS f) := JI.of (pi_seq h) fun F σ H S Rw r hf => tE.use r hf fun v H1 F1 S1 d x1 r1 h1 q => by
  cases d with
  | lst l =>
    obtain ⟨p, xs, rfl, hp, s1⟩ := h1
    refine ⟨p, rfl, .inl ⟨⟨xs, SqL.of (r1.ext.lst hp)⟩, F1, S1, l, x1, r1, ?_, q⟩⟩
    rw [← hz]
    exact itl_ok (SqL.of hp) s1 fun _ _ _ _ _ _ _ => trivial
  | scr ns =>
    obtain ⟨p, rfl, hp⟩ := h1
    refine ⟨p, rfl, .inl ⟨⟨_, r1.ext.sqL (hz ▸ hp)⟩, F1, S1, ns.map D.int, x1, r1, ?_, q⟩⟩
    rw [← hz]
    exact itl_ok hp (Rps.of_ints ns) fun _ _ _ _ _ _ _ => trivial
  | tup l =>
    obtain ⟨p, xs, rfl, hp, s1⟩ := h1
    refine ⟨p, rfl, .inr ⟨⟨xs, SqT.of (r1.ext.at hp rfl)⟩, F1, S1, l, x1, r1, ?_, q⟩⟩
    rw [← hz]
    exact itt_ok (SqT.of hp) s1
  | stt =>
    obtain ⟨p, rfl, hp⟩ := h1
    have hp' : SqT z.n.K F1 p [] := by
      rcases hp with (h | ⟨o, h⟩) | h
      · cases h
      · cases h
      · exact .inr h
    refine ⟨p, rfl, .inr ⟨⟨_, r1.ext.sqT (hz ▸ hp')⟩, F1, S1, [], x1, r1, ?_, q⟩⟩
    rw [← hz]
    exact itt_ok hp' rfl
  | _ => exact q.elim
def dNeg (f : DE) : DE := fun S R => f S fun d S' => onI (fun i => R (.int (-i)) S') d
theorem je_neg {X : Cx} {z : Z} {a : Expr} {f : DE} {pos : Pos} (h : JE X z a f) : JE X z (.UnaryOp .USub a pos) (dNeg f) :=
  JE.of (pe_un un_neg h) fun F σ H S R r hf => tE.use r hf fun v H1 F1 S1 d x1 r1 h1 q => by
    obtain ⟨i, rfl, q1⟩ := onI.get q
    exact ⟨i, h1, F1, S1, .int (-i), x1, r1, rfl, q1⟩
theorem js_retOwn {X : Cx} {z : Z} {e : Expr} {pos : Pos} {i : Nat} (h : PE X e (tVar i)) (p : z.pr i = none) : JS X z (.Return (some e) pos) (dRetOwn i) := JS.of (ps_ret h) fun F σ H S E r hf => by
  dsimp only [dRetOwn] at hf
  cases g : getS S i with
  | free => rw [g] at hf; exact hf.elim
  | slf c l => rw [g] at hf; exact hf.elim
  | val d => rw [g] at hf; exact hf.elim
  | own c =>
    rw [g] at hf
    have g1 := getS_some g (by intro x; cases x)
    obtain ⟨a, e1, f1, n1, c1⟩ := r.sl i _ g1
    have n0 : z.H0 a = none := by
      rcases n1 with n1 | n1
      · exact n1
      · rw [p] at n1; cases n1
    refine ⟨_, e1, F, σ, _, .own c, Ext.refl, r.setFree, ⟨a, rfl, f1, n0, c1, fun j c' hj ej => ?_⟩, hf⟩
    rcases setS_get hj with ⟨rfl, e⟩ | ⟨ne, hj'⟩
    · cases e
    · exact ne (r.inj j i c' c a hj' g1 ej e1)
def dPar3 (i j l : Nat) (f : DV) : DS := fun E S => f S fun ds S' => match ds with
  | [d, e, h] => E.nx (setS (setS (setS S' i (.val d)) j (.val e)) l (.val h))
  | _ => False
theorem js_par3 {X : Cx} {z : Z} {i j l : Nat} {x y w : Str} {a b c : Expr} {f : DV} {px py pz pt pos : Pos} {kt k2 pt2} (hc : X.calm = true) (hN : X.N.Nodup) (hi : X.N[i]? = some x) (hj : X.N[j]? = some y) (hl : X.N[l]? = some w) (hij : i ≠ j) (hil : i ≠ l) (hjl : j ≠ l)
    (hx : X.env.scope.names.lookup x = some .local) (hy : X.env.scope.names.lookup y = some .local) (hw' : X.env.scope.names.lookup w = some .local) (pi : z.pr i = none) (pj : z.pr j = none) (pl : z.pr l = none) (ha : JV X z [a, b, c] f)
    (hw : swappedStores [.Tuple [.Name x px, .Name y py, .Name w pz] kt pt] (.Tuple [a, b, c] k2 pt2) X.env = pure (some [x, y, w]) := by rfl)
    (hs : swapsWithSole [.Tuple [.Name x px, .Name y py, .Name w pz] kt pt] (.Tuple [a, b, c] k2 pt2) pos.line X.env = pure false := by rfl) :
    JS X z (.Assign [.Tuple [.Name x px, .Name y py, .Name w pz] kt pt] (.Tuple [a, b, c] k2 pt2) pos) (dPar3 i j l f) :=
  JS.of (ps_par3 hc hN hi hj hl hij hil hjl hx hy hw' ha hw hs) fun F σ H S E r hf => tV.use r hf fun vs H1 F1 S1 ds x1 r1 h1 q => by
    match ds, q, h1 with
    | [d, e, h], q, ⟨u, r1', e1, k1, v, r2', e2, k2', t, r3', e3, k3, e4⟩ =>
      subst e1; subst e2; subst e3
      rw [show r3' = [] from e4]
      exact ⟨u, v, t, rfl, F1, _, x1, ((r1.setVal pi k1).setVal pj k2').setVal pl k3, q⟩
structure Blk (b : DS) (E : DEnds) (S : SS) : Prop where
  run : b E S
def dBlk (b : DS) : DS := fun E S => Blk b E S
theorem dBlk_eq {b : DS} : dBlk b = b := by
  funext E S
  exact propext ⟨fun h => h.run, fun h => ⟨h⟩⟩
theorem jb_blk {X : Cx} {z : Z} {st : List Stmt} {b : DS} (h : JB X z st b) : JB X z st (dBlk b) := by
  rw [dBlk_eq]; exact h
theorem law_sp (n : Nm) {φ : List D → (Rs → Prop) → Prop} {H : Hp} {a : Addr} {ns : List Int} (hS : SqL n.K H a (ns.map V.int)) (h : φ [.scr ns] fun r => r = .val (.bl true)) : spOf n (lift0 φ) [.ref a] H (fun v _ => v = .bl true) fun _ _ _ => False :=
  ⟨H, [.val (.scr ns)], [], fun r _ => r = .val (.bl true), Ext.refl, ⟨_, _, rfl, ⟨a, rfl, hS⟩, rfl, rfl⟩, List.nodup_nil, h, fun v H' F' r cs _ _ _ _ _ hr hq => by
    subst hq
    exact hr⟩
end DL

namespace DL
open PySem L2

/-- so many bits -/
structure Bd (k : Nat) (i : Int) : Prop where
  lt : i.natAbs < 2 ^ k
theorem Bd.mono {k l : Nat} {i : Int} (h : Bd k i) (e : k ≤ l) : Bd l i := ⟨Nat.lt_of_lt_of_le h.lt (Nat.pow_le_pow_right (by decide) e)⟩
theorem Bd.lit {n : Nat} : Bd (n.log2 + 1) (@OfNat.ofNat Int n _) := by
  refine ⟨?_⟩
  show (Int.ofNat n).natAbs < _
  exact Nat.lt_log2_self
theorem Bd.add {k l : Nat} {i j : Int} (h : Bd k i) (g : Bd l j) : Bd (max k l + 1) (i + j) := by
  have h1 := (h.mono (Nat.le_max_left k l)).lt
  have g1 := (g.mono (Nat.le_max_right k l)).lt
  refine ⟨?_⟩
  rw [Nat.pow_succ]; omega
theorem Bd.sub {k l : Nat} {i j : Int} (h : Bd k i) (g : Bd l j) : Bd (max k l + 1) (i - j) := by
  have h1 := (h.mono (Nat.le_max_left k l)).lt
  have g1 := (g.mono (Nat.le_max_right k l)).lt
  refine ⟨?_⟩
  rw [Nat.pow_succ]; omega
theorem Bd.neg {k : Nat} {i : Int} (h : Bd k i) : Bd k (-i) := by
  refine ⟨?_⟩
  rw [Int.natAbs_neg]; exact h.lt
theorem Bd.mul {k l : Nat} {i j : Int} (h : Bd k i) (g : Bd l j) : Bd (k + l) (i * j) := by
  refine ⟨?_⟩
  rw [Int.natAbs_mul, Nat.pow_add]
  exact Nat.mul_lt_mul'' h.lt g.lt
theorem Bd.div {k : Nat} {i j : Int} (h : Bd k i) : Bd k (i / j) :=
  ⟨Nat.lt_of_le_of_lt (Int.natAbs_ediv_le_natAbs i j) h.lt⟩
theorem Bd.mod {l : Nat} {i j : Int} (p : 0 < j) (h : Bd l j) : Bd l (i % j) := by
  have h0 := h.lt
  have h1 := Int.emod_nonneg i (Int.ne_of_gt p)
  have h2 := Int.emod_lt_of_pos i p
  exact ⟨by omega⟩
theorem Bd.pow {k n : Nat} {i : Int} (h : Bd k i) : Bd (k * n + 1) (i ^ n) := by
  refine ⟨?_⟩
  rw [Int.natAbs_pow, Nat.pow_succ, Nat.pow_mul]
  have := Nat.pow_le_pow_left (Nat.le_of_lt h.lt) n
  have h0 : 0 < (2 ^ k) ^ n := Nat.pow_pos (Nat.pow_pos (by decide))
  omega
theorem Bd.abs {k : Nat} {i : Int} (h : Bd k i) : Bd k (if i < 0 then -i else i) := by
  split
  · exact h.neg
  · exact h
theorem Bd.ite {k l : Nat} {p : Prop} [Decidable p] {i j : Int} (h : Bd k i) (g : Bd l j) : Bd (max k l) (if p then i else j) := by
  split
  · exact h.mono (Nat.le_max_left k l)
  · exact g.mono (Nat.le_max_right k l)
theorem Bd.range {k l : Nat} {i : Int} (a b : Int) (h1 : a ≤ i) (h2 : i ≤ b) (ha : Bd k a) (hb : Bd l b) : Bd (max k l) i := by
  have h1 := (ha.mono (Nat.le_max_left k l)).lt
  have g1 := (hb.mono (Nat.le_max_right k l)).lt
  exact ⟨by omega⟩
theorem Bd.below {k : Nat} {i b : Int} (h1 : 0 ≤ i) (h2 : i ≤ b) (hb : Bd k b) : Bd k i := by
  have g1 := hb.lt
  exact ⟨by omega⟩
theorem Bd.nat {k : Nat} {n : Nat} (h : n < 2 ^ k) : Bd k n := ⟨by omega⟩
theorem mulOk_bd {k l : Nat} {i j : Int} (h : Bd k i) (g : Bd l j) (e : k + l ≤ 999998) : MulOk i j :=
  .inr (wide_mul (a := k + 1) (b := l + 1) (h.mono (by omega)).lt (g.mono (by omega)).lt (by omega) (by omega) (by omega))
theorem divOk_bd {k : Nat} {i j : Int} (p : 0 < j) (h : Bd k j) (e : k ≤ 8999) : DivOk i j := wide_div p (h.mono (Nat.le_succ k)).lt (by omega) (by omega)
theorem mul_l {i j : Int} (h1 : -(2 ^ 64) < i) (h2 : i < 2 ^ 64) : MulOk i j := .inl (.inl ⟨h1, h2⟩)
theorem mul_r {i j : Int} (h1 : -(2 ^ 64) < j) (h2 : j < 2 ^ 64) : MulOk i j := .inl (.inr ⟨h1, h2⟩)
theorem div_s {i j : Int} (h1 : 0 < j) (h2 : j < 2 ^ 64) : DivOk i j := divOk_bd (k := 64) h1 ⟨by omega⟩ (by decide)

theorem For.inv {g : DG} {b : DS} {l : List D} {E : DEnds} {S : SS} (I : List D → SS → Prop) (h0 : I l S) (h1 : ∀ S1, I [] S1 → E.nx S1) (h2 : ∀ d r S0, I (d :: r) S0 → g d S0 fun S1 => b { nx := I r, rt := E.rt, bk := E.nx, ct := I r } S1) : For g b l E S := ⟨⟨I, h0, h1, h2⟩⟩
theorem While.inv {t : DT} {b : DS} {E : DEnds} {S : SS} (I : Nat → SS → Prop) (m : Nat) (h0 : I m S) (h1 : ∀ m S, I m S → t S fun k S1 => (k = true → b { nx := fun S2 => ∃ m', m' < m ∧ I m' S2, rt := E.rt, bk := E.nx, ct := fun S2 => ∃ m', m' < m ∧ I m' S2 } S1) ∧ (k = false → E.nx S1)) : While t b E S := ⟨⟨I, ⟨m, h0⟩, h1⟩⟩
/-- Python's == of ints, of None -/
theorem deq_int {i j : Int} : deq (.int i) (.int j) = decide (i = j) := by
  by_cases h : i = j
  · subst h; rw [deq_iff.mpr rfl, decide_eq_true rfl]
  · rw [deq_ff (fun q => h (D.int.inj q)), decide_eq_false h]
theorem deq_self {d : D} : deq d d = true := deq_iff.mpr rfl
theorem deq_non_int {i : Int} : deq .non (.int i) = false := deq_ff fun q => by cases q
theorem deq_int_non {i : Int} : deq (.int i) .non = false := deq_ff fun q => by cases q
theorem deq_str {i j : Str} : deq (.str i) (.str j) = decide (i = j) := by
  by_cases h : i = j
  · subst h; rw [deq_iff.mpr rfl, decide_eq_true rfl]
  · rw [deq_ff (fun q => h (D.str.inj q)), decide_eq_false h]
theorem deq_bl {i j : Bool} : deq (.bl i) (.bl j) = decide (i = j) := by
  by_cases h : i = j
  · subst h; rw [deq_iff.mpr rfl, decide_eq_true rfl]
  · rw [deq_ff (fun q => h (D.bl.inj q)), decide_eq_false h]
theorem atI_nn {α : Type} {l : List α} {i : Int} (h0 : 0 ≤ i) (h1 : i < l.length) : atI l i = l[i.toNat]? := by
  unfold atI ixN
  rw [if_pos h0, if_pos h1]
  rfl
theorem atI_ok {α : Type} {l : List α} {i : Int} (P : α → Prop) (hP : ∀ d ∈ l, P d) (h0 : 0 ≤ i) (h1 : i < l.length) : ∃ d, atI l i = some d ∧ P d := by
  rw [atI_nn h0 h1]
  have h2 : i.toNat < l.length := by omega
  exact ⟨l[i.toNat], List.getElem?_eq_getElem h2, hP _ (List.getElem_mem h2)⟩
theorem cpow_ok {i j : Int} (h : i.natAbs < 2 ^ 64) (h0 : 0 ≤ j) (h1 : j ≤ 1000000) : CPow i j := ⟨h0, h1, h⟩
/-- whole numbers in a range -/
@[reducible] def AllI (lo hi : Int) : List D → Prop
  | [] => True
  | d :: r => onI (fun x => lo ≤ x ∧ x ≤ hi) d ∧ AllI lo hi r
theorem AllI.mem {lo hi : Int} : ∀ {l : List D}, AllI lo hi l → ∀ d ∈ l, ∃ x, d = .int x ∧ lo ≤ x ∧ x ≤ hi
  | [], _, d, h => by cases h
  | e :: r, h, d, hd => by
    rcases List.mem_cons.mp hd with rfl | hd
    · exact onI.get h.1
    · exact AllI.mem h.2 d hd
theorem eqOk_int {n : Nat} {i : Int} : eqOk n (.int i) := by cases n <;> simp [eqOk]
theorem eqOk_non {n : Nat} : eqOk n .non := by cases n <;> simp [eqOk]
theorem eqOk_str {n : Nat} {s : Str} (h : PySem.PyData.strOk s = true) : eqOk n (.str s) := by cases n <;> simpa [eqOk] using h
theorem eqOk_tup {n : Nat} {l : List D} (h : ∀ d ∈ l, eqOk n d) : eqOk (n + 1) (.tup l) := by simpa [eqOk] using h
theorem eqOk_lst {n : Nat} {l : List D} (h : ∀ d ∈ l, eqOk n d) : eqOk (n + 1) (.lst l) := by simpa [eqOk] using h
theorem eqc_int {i : Int} {e : D} (h : eqOk 20 e) : eqc (.int i) e := ⟨eqOk_int, h⟩
theorem eqc_non {e : D} (h : eqOk 20 e) : eqc .non e := ⟨eqOk_non, h⟩
theorem eqc_str {s : Str} {e : D} (h0 : PySem.PyData.strOk s = true) (h : eqOk 20 e) : eqc (.str s) e := ⟨eqOk_str h0, h⟩
theorem eqc_tup {l : List D} {e : D} (h0 : eqOk 20 (.tup l)) (h : eqOk 20 e) : eqc (.tup l) e := ⟨h0, h⟩
theorem eqc_lst {l : List D} {e : D} (h0 : eqOk 20 (.lst l)) (h : eqOk 20 e) : eqc (.lst l) e := ⟨h0, h⟩
theorem all_nil {p : D → Prop} : ∀ d ∈ ([] : List D), p d := fun d h => by cases h
theorem all_cons {p : D → Prop} {e : D} {l : List D} (h : p e) (k : ∀ d ∈ l, p d) : ∀ d ∈ e :: l, p d := fun d hd => by
  rcases List.mem_cons.mp hd with rfl | hd
  · exact h
  · exact k d hd
theorem fl_lt {l : List (Nat × D)} {m : Nat} (h : (l.all fun p => Nat.blt p.1 m) = true) : ∀ p ∈ l, p.1 < m := fun p hp => Nat.le_of_ble_eq_true (List.all_eq_true.mp h p hp)
theorem cutD_len {α : Type} (l : List α) (lo hi : Option Int) : (cutD l lo hi).length ≤ l.length := by
  unfold cutD
  rw [List.length_take, List.length_drop]
  omega
theorem cut_small {α : Type} {l : List α} {lo hi : Option Int} {f : α → D} {n k : Nat} (hl : l.length ≤ n) (h : k + n ≤ sizeLine) : k + ((cutD l lo hi).map f).length ≤ sizeLine := by
  have := cutD_len l lo hi
  rw [List.length_map]; omega
theorem ints_app {l m : List D} (h : ∀ d ∈ l, ∃ i, d = .int i) (k : ∀ d ∈ m, ∃ i, d = .int i) : ∀ d ∈ l ++ m, ∃ i, d = D.int i := fun d hd => by
  rcases List.mem_append.mp hd with q | q
  · exact h d q
  · exact k d q
theorem ints_map {l : List Int} : ∀ d ∈ l.map D.int, ∃ i, d = D.int i := fun d hd => by
  obtain ⟨i, _, e⟩ := List.mem_map.mp hd
  exact ⟨i, e.symm⟩
theorem ints_one {i : Int} : ∀ d ∈ [D.int i], ∃ i, d = D.int i := fun d hd => ⟨i, by simpa using hd⟩
theorem rng_mem {lo : Int} {n : Nat} : ∀ d ∈ rng lo n, ∃ i, d = D.int i ∧ lo ≤ i ∧ i < lo + n := fun d hd => by
  unfold rng at hd
  obtain ⟨i, hi, e⟩ := List.mem_map.mp hd
  have := List.mem_range.mp hi
  exact ⟨_, e.symm, by omega, by omega⟩
theorem eqc_of {d e : D} (h : eqOk 20 d) (g : eqOk 20 e) : eqc d e := by
  cases d with
  | bl b => simp [eqOk] at h
  | _ => exact ⟨h, g⟩
theorem eqOk_ite {n : Nat} {p : Prop} [Decidable p] {d e : D} (h : eqOk n d) (g : eqOk n e) : eqOk n (if p then d else e) := by
  split
  · exact h
  · exact g
theorem deq_eq {d e d' e' : D} (h : d = e ↔ d' = e') : deq d e = deq d' e' := by
  by_cases q : d = e
  · rw [deq_iff.mpr q, deq_iff.mpr (h.mp q)]
  · rw [deq_ff q, deq_ff fun r => q (h.mpr r)]
theorem Lc.inv {g : DG} {t : DT} {f : DE} {vs : List Nat} {l : List D} {S : SS} {R : List D → SS → Prop} (I : List D → List D → SS → Prop) (h0 : I [] l S) (h1 : ∀ acc S1, I acc [] S1 → R acc S1)
    (h2 : ∀ acc d r S0, I acc (d :: r) S0 → g d (wipeS S0 vs) fun S1 => t S1 fun k S2 => (k = true → f S2 fun o S3 => I (acc ++ [o]) r (unw S0 S3 vs)) ∧ (k = false → I acc r (unw S0 S2 vs))) : Lc g t f vs l S R := ⟨⟨I, h0, h1, h2⟩⟩
/-- whole numbers of a kind -/
@[reducible] def AllP (P : Int → Prop) : List D → Prop
  | [] => True
  | d :: r => onI P d ∧ AllP P r
theorem AllP.mem {P : Int → Prop} : ∀ {l : List D}, AllP P l → ∀ d ∈ l, ∃ x, d = .int x ∧ P x
  | [], _, d, h => by cases h
  | e :: r, h, d, hd => by
    rcases List.mem_cons.mp hd with rfl | hd
    · exact onI.get h.1
    · exact AllP.mem h.2 d hd
end DL

namespace PySem
open Builtin
section
variable {prog : Program} {w : World} {A : Around} {E : Value → Shared → Prop} {s : Shared} {K : PySem.W.Frag} {x C L f : Addr} {h₀ : Heap} {m : Str → Option Value} {ox : Obj} {od : Option Obj} {b tb : Value}
/-- what a class needs for != by its own == -/
structure NeOf (K : PySem.W.Frag) (C : Addr) : Prop where
  ne : PySem.W.findIn K (.ref C) "__ne__" = some (some (.builtin "object.__ne__"))
  sub : PySem.W.subIn K (.ref C) (.type "object") = some true
theorem ne_body {Q : Fin → Shared → Prop} {E : Value → Shared → Prop} (hu : A.units < cLine) (X : K.In s.heap) (I : PySem.W.InstAt s.heap x ox C od) (hs : PySem.W.findIn K (.ref C) "__eq__" = some (some (.ref f))) (hf : PySem.W.isFn K (.ref f) = true)
    (h : wpAny (model prog w) A (call (.ref f) [.ref x, b]) (fun v s' => ∃ r, v = .bool r ∧ Q (.done (.ret (.bool (!r)))) s') E s) :
    wpAny (model prog w) A (Builtin.«object.__ne__» ⟨[.ref x, b], []⟩) Q E s := by
  unfold Builtin.«object.__ne__»
  repeat (first | with_reducible refine wpAny_cRoomFor hu ?_ | with_reducible refine PySem.W.ifBound_K X I hs hf (wpAny_mono h (fun v s' q => ?_) fun _ _ e => e) | wp_step)
  obtain ⟨r, rfl, q⟩ := q
  dsimp only
  refine wpAny_bind (wpAny_truthy_bool ?_)
  exact wpAny_pure q
theorem ne_check {M : Model} {Q : Unit → Shared → Prop} (X : K.In s.heap) (N : NeOf K C) (I : PySem.W.InstAt s.heap x ox C od) (hq : Q () s) : wpAny M A (checkBuiltinCall "object.__ne__" ⟨.ref x :: [b], []⟩) Q E s := by
  simp only [checkBuiltinCall, F.cmpKind_ne, F.cmpSplit_ne]
  refine wpAny_bind ?_
  unfold isInstance
  refine wpAny_bind (I.type.here ?_)
  refine (PySem.W.looks_subIn X N.sub).here ?_
  simp only [Bool.not_true, Bool.false_eq_true, if_false]
  cases hsig : Manifest.signature? "object.__ne__" with
  | none => exact wpAny_pure hq
  | some sig =>
    have ha := F.cmpArgs_ne (.ref x) b
    simp only [argsOk, hsig] at ha
    have h2 : Bind.checkArgs "object.__ne__" sig ⟨.ref x :: [b], []⟩ = pure () := ha
    show wpAny M A (Bind.checkArgs "object.__ne__" sig ⟨.ref x :: [b], []⟩) Q E _
    rw [h2]; exact wpAny_pure hq
theorem ne_special {Q : Option Value → Shared → Prop} (hu : A.units < cLine) (hu1 : A.in1.units < cLine) (X : K.In s.heap) (N : NeOf K C) (I : PySem.W.InstAt s.heap x ox C od) (hs : PySem.W.findIn K (.ref C) "__eq__" = some (some (.ref f))) (hf : PySem.W.isFn K (.ref f) = true)
    (h : wpAny (model prog w) A.in1 (call (.ref f) [.ref x, b]) (fun v s' => ∃ r, v = .bool r ∧ Q (some (.bool (!r))) s') E s) :
    wpAny (model prog w) A (callSpecialIfBound? (.ref x) "__ne__" [b]) Q E s := by
  have S := F.cmp_object.ne
  simp only [callSpecialIfBound?, bindSpecialIfBound?]
  refine wpAny_holding (wpAny_bind (wpAny_bind (wpAny_bind (I.type.here ((PySem.W.looks_findIn X N.ne).here ?_)))))
  simp only [S.bind]
  have fin : wpAny (model prog w) A (call (.builtin "object.__ne__") ([.ref x] ++ [b]) >>= fun v => pure (some v)) Q E s := by
    refine wpAny_bind (wpAny_call (codeAny_call_builtin S.plain F.cmpEntry_ne (ne_check X N I (ne_body hu1 X I hs hf ?_))))
    refine wpAny_mono h (fun v s' q => ?_) fun _ _ e => e
    obtain ⟨r, e, q⟩ := q
    exact ⟨r, e, wpAny_pure q⟩
  refine wpAny_bind (wpAny_askSetting (wpAny_ite ?_))
  split
  · exact wpAny_bind (wpAny_pure (wpAny_pure fin))
  · exact wpAny_tryCatch (wpAny_bind (wpAny_pure (wpAny_pure fin)))
theorem rc_ne {Q : Value → Shared → Prop} (hu : A.units < cLine) (hu1 : A.in1.units < cLine) (X : K.In s.heap) (N : NeOf K C) (I : PySem.W.InstAt s.heap x ox C od) (hb : PySem.W.Looks (model prog w) s.heap (typeOf b) (.ref C)) (hs : PySem.W.findIn K (.ref C) "__eq__" = some (some (.ref f))) (hf : PySem.W.isFn K (.ref f) = true)
    (h : wpAny (model prog w) A.in1 (call (.ref f) [.ref x, b]) (fun v s' => ∃ r, v = .bool r ∧ Q (.bool (!r)) s') E s) : wpAny (model prog w) A (richCompare .NotEq (.ref x) b) Q E s := by
  have one : wpAny (model prog w) A (tryCompare (.ref x) "__ne__" b) (fun r s' => ∃ v, r = some v ∧ Q v s') E s := by
    unfold tryCompare
    refine wpAny_bind (ne_special hu hu1 X N I hs hf (wpAny_mono h (fun v s' q => ?_) fun _ _ e => e))
    obtain ⟨r, e, q⟩ := q
    exact ⟨r, e, wpAny_pure ⟨_, rfl, q⟩⟩
  unfold richCompare
  simp only [oneThing_ref, cmpInfo_NotEq]
  refine wpAny_holding (wpAny_bind (wpAny_cRoomFor hu ?_))
  refine wpAny_bind (I.type.here (wpAny_bind (hb.here ?_)))
  simp only [bne_self_eq_false, Bool.false_eq_true, if_false]
  refine wpAny_bind (wpAny_pure ?_)
  simp only [Bool.false_eq_true, if_false]
  refine wpAny_bind (wpAny_mono one (fun r s' z => ?_) fun _ _ e => e)
  obtain ⟨v, rfl, hq⟩ := z
  exact wpAny_pure hq
end
end PySem
namespace DL
open PySem L2
def rEqI (C : Addr) (sp : Sp) (E : XK) : R2 := fun x y H Q => ∃ a b dx dy fs gs, x = .ref a ∧ y = .ref b ∧ H a = some (.ins C dx fs) ∧ H b = some (.ins C dy gs) ∧ sp ([.ref a, .ref b] ++ []) H (fun v H' => ∃ r, v = .bl r ∧ Q (.bl r) H') E
def rNeI (C : Addr) (sp : Sp) (E : XK) : R2 := fun x y H Q => ∃ a b dx dy fs gs, x = .ref a ∧ y = .ref b ∧ H a = some (.ins C dx fs) ∧ H b = some (.ins C dy gs) ∧ sp ([.ref a, .ref b] ++ []) H (fun v H' => ∃ r, v = .bl r ∧ Q (.bl (!r)) H') E
structure EqOf (K : PySem.W.Frag) (C f : Addr) : Prop where
  eq : PySem.W.findIn K (.ref C) "__eq__" = some (some (.ref f))
  fn : PySem.W.isFn K (.ref f) = true
section
variable {X : Cx} {CX : CXT} {n : Nat} {C f : Addr} {fd : FuncData} {ps : List Str} {sp : Sp} {E : XK}
theorem op_eqI (F : FnOk X.prog X.w X.K X.mg X.base CX n f fd ps sp) (hr : Room n X.A) (he : EqOf X.K C f) (hb : Binds X.K fd ps []) (hx : Passes CX X E) : OpR X (compareOp .Eq) (rEqI C sp E) := by
  intro pins s σ H x y v u Q I rx ry hq
  obtain ⟨a, b, dx, dy, fs, gs, rfl, rfl, ha, hb', hsp⟩ := hq
  show wpAny (model X.prog X.w) X.A (richCompare .Eq v u) (EP X pins σ Q) X.xe s
  cases rx
  cases ry
  obtain ⟨mA, J, _⟩ := ins_get I.hok ha
  obtain ⟨mB, J', _⟩ := ins_get I.hok hb'
  obtain ⟨od, J, _⟩ := J.look
  obtain ⟨od', J', _⟩ := J'.look
  obtain ⟨m, hF⟩ := I.fr
  refine PySem.W.cmp_K (op := .Eq) (tb := .ref C) (Nat.lt_of_succ_lt (hu_of hr)) hF I.ok.mod.kin J J'.type (by simp [PySem.W.notFirst]) he.eq he.fn ?_
  have r2 : Vals [V.ref a, V.ref b] [Value.ref a, Value.ref b] := .cons rfl (.cons rfl .nil)
  refine wpAny_mono (run_fn F hr hb .nil hx I r2 hsp) (fun u s' q => ?_) fun _ _ e => e
  obtain ⟨v, H', I', rv, r, rfl, q⟩ := q
  cases rv
  exact ⟨.bl r, H', I', rfl, q⟩
theorem op_neI (F : FnOk X.prog X.w X.K X.mg X.base CX n f fd ps sp) (hr : Room (n + 1) X.A) (he : EqOf X.K C f) (hn : NeOf X.K C) (hb : Binds X.K fd ps []) (hx : Passes CX X E) : OpR X (compareOp .NotEq) (rNeI C sp E) := by
  intro pins s σ H x y v u Q I rx ry hq
  obtain ⟨a, b, dx, dy, fs, gs, rfl, rfl, ha, hb', hsp⟩ := hq
  show wpAny (model X.prog X.w) X.A (richCompare .NotEq v u) (EP X pins σ Q) X.xe s
  cases rx
  cases ry
  obtain ⟨mA, J, _⟩ := ins_get I.hok ha
  obtain ⟨mB, J', _⟩ := ins_get I.hok hb'
  obtain ⟨od, J, _⟩ := J.look
  obtain ⟨od', J', _⟩ := J'.look
  refine rc_ne (K := X.K) (Nat.lt_of_succ_lt (hu_of hr)) (hu_of hr) I.kIn hn J J'.type he.eq he.fn ?_
  have r2 : Vals [V.ref a, V.ref b] [Value.ref a, Value.ref b] := .cons rfl (.cons rfl .nil)
  have e0 : Env0 X.prog X.w X.K X.mg X.base X.A.in1 X.stack s H := by
    have e := I.env0
    exact ⟨e.frames, e.mod, e.bs, e.bsz, e.funs, e.frf, e.hok, e.bare⟩
  have hl := F.len _ _ _ _ hsp
  refine wpAny_call (codeAny_mono (F.run X.A.in1 X.stack s H ⟨[.ref a, .ref b], []⟩ [.ref a, .ref b] [.ref a, .ref b] _ E hr.in1 e0 (by
    have := hb s [.ref a, .ref b] I.kIn (by simpa using hl)
    simpa using this) r2 hsp) fun r s' hq => ?_)
  cases r with
  | error e => exact hx pins σ H s e s' I hq
  | ok fl =>
    cases fl with
    | ret w =>
      obtain ⟨z, H', I', rz, r, ez, q⟩ := I.after hq
      subst ez
      cases rz
      exact ⟨r, rfl, .bl (!r), H', I', rfl, q⟩
    | next => exact False.elim hq
    | brk => exact False.elim hq
    | cont => exact False.elim hq
/-- x == y, x != y of two objects of the class nr c -/
def dEqI (c : Nat) (φ : SpD) (fo fp : DO) : DE := fun S R => fo S fun o S1 => fp S1 fun p S2 => view S2 (onIns c fun _ => view S2 (onIns c fun _ => le1 (ownR S2 [o, p]) ∧ res S2 [o, p] fun ars => φ ars fun r cs => onB (fun b => R (.bl b) (putR S2 (ownR S2 [o, p]) cs)) r.d) p) o
def dNeI (c : Nat) (φ : SpD) (fo fp : DO) : DE := fun S R => fo S fun o S1 => fp S1 fun p S2 => view S2 (onIns c fun _ => view S2 (onIns c fun _ => le1 (ownR S2 [o, p]) ∧ res S2 [o, p] fun ars => φ ars fun r cs => onB (fun b => R (.bl (!b)) (putR S2 (ownR S2 [o, p]) cs)) r.d) p) o
end
section
variable {X : Cx} {z : Z} {CX : CXT} {k : Nat} {f : Addr} {fd : FuncData} {ps : List Str} {φ : SpD} {E : XK} {pos : Pos} {a b : Expr} {fo fp : DO} {c : Nat}
theorem je_eqI (F : FnOk X.prog X.w X.K X.mg X.base CX k f fd ps (spOf z.n φ)) (hr : Room k X.A) (he : EqOf X.K (z.n.cm c) f) (hb : Binds X.K fd ps []) (hx : Passes CX X E) (ha : JO X z a fo) (hb' : JO X z b fp) (hm : behindInMarks .Eq b = false) : JE X z (.Compare a [.Eq] [b] pos) (dEqI c φ fo fp) :=
  JE.of (pe_cmpR (op_eqI F hr he hb hx) ha hb' hm) fun F σ H S R r hf => tO.use r hf fun v1 H1 F1 S1 a1 x1 r1 k1 q1 => tO.use r1 q1 fun v2 H2 F2 S2 a2 x2 r2 k2 q2 => by
    obtain ⟨d, rv1, q3⟩ := (k1.mono x2).view r2 q2
    obtain ⟨l, rfl, q4⟩ := onIns.get q3
    obtain ⟨e, rv2, q5⟩ := k2.view r2 q4
    obtain ⟨m, rfl, l1, q6⟩ := onIns.get q5
    obtain ⟨p, dx, fs, rfl, h1, _, _⟩ := rv1
    obtain ⟨q, dy, gs, rfl, h2, _, _⟩ := rv2
    refine ⟨p, q, dx, dy, fs, gs, rfl, rfl, h1, h2, ?_⟩
    refine call_use (dv := []) (vs := [.ref p, .ref q]) (as := [a1, a2]) rfl r2 ⟨_, _, rfl, k1.mono x2, _, _, rfl, k2, rfl⟩ l1 (R := _) (by simpa [allVal] using q6) fun v H' F' rr cs x r' ok q' => ?_
    obtain ⟨bb, e, q'⟩ := onB.get q'
    exact ⟨bb, RsOk.bl ok e, F', _, .bl bb, (x1.trans x2).trans x, r', rfl, q'⟩
theorem je_neI (F : FnOk X.prog X.w X.K X.mg X.base CX k f fd ps (spOf z.n φ)) (hr : Room (k + 1) X.A) (he : EqOf X.K (z.n.cm c) f) (hn : NeOf X.K (z.n.cm c)) (hb : Binds X.K fd ps []) (hx : Passes CX X E) (ha : JO X z a fo) (hb' : JO X z b fp) (hm : behindInMarks .NotEq b = false) : JE X z (.Compare a [.NotEq] [b] pos) (dNeI c φ fo fp) :=
  JE.of (pe_cmpR (op_neI F hr he hn hb hx) ha hb' hm) fun F σ H S R r hf => tO.use r hf fun v1 H1 F1 S1 a1 x1 r1 k1 q1 => tO.use r1 q1 fun v2 H2 F2 S2 a2 x2 r2 k2 q2 => by
    obtain ⟨d, rv1, q3⟩ := (k1.mono x2).view r2 q2
    obtain ⟨l, rfl, q4⟩ := onIns.get q3
    obtain ⟨e, rv2, q5⟩ := k2.view r2 q4
    obtain ⟨m, rfl, l1, q6⟩ := onIns.get q5
    obtain ⟨p, dx, fs, rfl, h1, _, _⟩ := rv1
    obtain ⟨q, dy, gs, rfl, h2, _, _⟩ := rv2
    refine ⟨p, q, dx, dy, fs, gs, rfl, rfl, h1, h2, ?_⟩
    refine call_use (dv := []) (vs := [.ref p, .ref q]) (as := [a1, a2]) rfl r2 ⟨_, _, rfl, k1.mono x2, _, _, rfl, k2, rfl⟩ l1 (R := _) (by simpa [allVal] using q6) fun v H' F' rr cs x r' ok q' => ?_
    obtain ⟨bb, e, q'⟩ := onB.get q'
    exact ⟨bb, RsOk.bl ok e, F', _, .bl (!bb), (x1.trans x2).trans x, r', rfl, q'⟩
theorem jt_eqI (F : FnOk X.prog X.w X.K X.mg X.base CX k f fd ps (spOf z.n φ)) (hr : Room k X.A) (he : EqOf X.K (z.n.cm c) f) (hb : Binds X.K fd ps []) (hx : Passes CX X E) (ha : JO X z a fo) (hb' : JO X z b fp) (hm : behindInMarks .Eq b = false) : JT X z (.Compare a [.Eq] [b] pos) (dTB (dEqI c φ fo fp)) :=
  JT.of (pt_cmpR (op_eqI F hr he hb hx) ha hb' hm) fun F σ H S R r hf => tO.use r hf fun v1 H1 F1 S1 a1 x1 r1 k1 q1 => tO.use r1 q1 fun v2 H2 F2 S2 a2 x2 r2 k2 q2 => by
    obtain ⟨d, rv1, q3⟩ := (k1.mono x2).view r2 q2
    obtain ⟨l, rfl, q4⟩ := onIns.get q3
    obtain ⟨e, rv2, q5⟩ := k2.view r2 q4
    obtain ⟨m, rfl, l1, q6⟩ := onIns.get q5
    obtain ⟨p, dx, fs, rfl, h1, _, _⟩ := rv1
    obtain ⟨q, dy, gs, rfl, h2, _, _⟩ := rv2
    refine ⟨p, q, dx, dy, fs, gs, rfl, rfl, h1, h2, ?_⟩
    refine call_use (dv := []) (vs := [.ref p, .ref q]) (as := [a1, a2]) rfl r2 ⟨_, _, rfl, k1.mono x2, _, _, rfl, k2, rfl⟩ l1 (R := _) (by simpa [allVal] using q6) fun v H' F' rr cs x r' ok q' => ?_
    obtain ⟨bb, e, q'⟩ := onB.get q'
    exact ⟨bb, RsOk.bl ok e, bb, rfl, F', _, (x1.trans x2).trans x, r', q'⟩
theorem jt_neI (F : FnOk X.prog X.w X.K X.mg X.base CX k f fd ps (spOf z.n φ)) (hr : Room (k + 1) X.A) (he : EqOf X.K (z.n.cm c) f) (hn : NeOf X.K (z.n.cm c)) (hb : Binds X.K fd ps []) (hx : Passes CX X E) (ha : JO X z a fo) (hb' : JO X z b fp) (hm : behindInMarks .NotEq b = false) : JT X z (.Compare a [.NotEq] [b] pos) (dTB (dNeI c φ fo fp)) :=
  JT.of (pt_cmpR (op_neI F hr he hn hb hx) ha hb' hm) fun F σ H S R r hf => tO.use r hf fun v1 H1 F1 S1 a1 x1 r1 k1 q1 => tO.use r1 q1 fun v2 H2 F2 S2 a2 x2 r2 k2 q2 => by
    obtain ⟨d, rv1, q3⟩ := (k1.mono x2).view r2 q2
    obtain ⟨l, rfl, q4⟩ := onIns.get q3
    obtain ⟨e, rv2, q5⟩ := k2.view r2 q4
    obtain ⟨m, rfl, l1, q6⟩ := onIns.get q5
    obtain ⟨p, dx, fs, rfl, h1, _, _⟩ := rv1
    obtain ⟨q, dy, gs, rfl, h2, _, _⟩ := rv2
    refine ⟨p, q, dx, dy, fs, gs, rfl, rfl, h1, h2, ?_⟩
    refine call_use (dv := []) (vs := [.ref p, .ref q]) (as := [a1, a2]) rfl r2 ⟨_, _, rfl, k1.mono x2, _, _, rfl, k2, rfl⟩ l1 (R := _) (by simpa [allVal] using q6) fun v H' F' rr cs x r' ok q' => ?_
    obtain ⟨bb, e, q'⟩ := onB.get q'
    exact ⟨bb, RsOk.bl ok e, !bb, rfl, F', _, (x1.trans x2).trans x, r', q'⟩
end
structure IsoT (K : PySem.W.Frag) (C : Addr) : Prop where
  ha : PySem.W.findIn K (.ref C) "__class__" = some (some (.builtin "object.__class__"))
  hn : PySem.W.specialIn K (.builtin "object.__class__") "__get__" = some (some (.builtin "getset_descriptor.__get__"))
  ht : PySem.W.takesIn K (.builtin "object.__class__") = some true
  hm : PySem.W.mroIn K C (.type "object") = some true
  no : ∀ U ∈ tyNames, PySem.W.kitOne K (.type U) (.ref C) = some false
theorem isoTB_ok {K : PySem.W.Frag} {C : Addr} (h : isoTB K C = true) : IsoT K C := by
  have ⟨h1, h⟩ := Bool.and_eq_true_iff.mp h
  have ⟨h2, h⟩ := Bool.and_eq_true_iff.mp h
  have ⟨h3, h⟩ := Bool.and_eq_true_iff.mp h
  have ⟨h4, h⟩ := Bool.and_eq_true_iff.mp h
  exact ⟨of_decide_eq_true h1, of_decide_eq_true h2, of_decide_eq_true h3, of_decide_eq_true h4, fun U hU => of_decide_eq_true (List.all_eq_true.mp h U hU)⟩
@[reducible] def isoD (c : Nat) : D → Option Bool
  | .ins c' _ => if c' = c then some true else none
  | .dT _ => none
  | _ => some false
def dIsO (c : Nat) (f : DO) : DE := fun S R => f S fun a S1 => view S1 (fun d => onSome (fun b => R (.bl b) S1) (isoD c d)) a
section
variable {X : Cx} {z : Z} {e : Expr} {fo : DO} {c : Nat} {x : Str} {p p2 pos : Pos}
theorem je_isO (k : IsoT X.K (z.n.cm c)) (cl : Cls X.K (z.n.cm c)) (hz : z.n.K = X.K) (hx : JO X z e fo) (hgx : Gl X x) (hmx : X.mg x = some (.ref (z.n.cm c))) (hg : Gl X "isinstance") (hm : X.mg "isinstance" = none) (hd : (x == ("__debug__" : Str)) = false := by decide) (hv : bootBuiltins "isinstance" = some (.builtin "isinstance") := by decide +kernel)
    (h1 : starEach [.Name x p2] X.env = (false, eval (.Name x p2) X.env) :: starEach [] X.env := by rfl) (he : starEach [e, .Name x p2] X.env = (false, eval e X.env) :: starEach [.Name x p2] X.env := by rfl) (hpl : (backTo pos (starEach [.Name x p2] X.env)).any (·.1) = false := by rfl) :
    JE X z (.Call (.Name "isinstance" p) [e, .Name x p2] [] pos) (dIsO c fo) :=
  JE.of (pe_callB call_isi hg hm hv (pa_cons hx (pa_cons (pe_glob hgx hmx (v := .ref (z.n.cm c)) rfl hd) pa_nil h1) he) (he := he) (hpl := hpl)) fun F σ H S R r hf => tO.use r hf fun v H1 F1 S1 a x1 r1 ha q => by
    obtain ⟨d, rv, q1⟩ := ha.view r1 q
    obtain ⟨b, eb, q2⟩ := onSome.get q1
    have main : ∀ U, tyName d = some U → U ∈ tyNames → b = false → ∃ (x c_1 : V) (t u : Value) (b : Bool), [v, V.ref (z.n.cm c)] = [x, c_1] ∧ ClsV c_1 u ∧ TyX X.K H1 x t ∧ PySem.W.kitOne X.K t u = some b ∧ PostE z F σ R (V.bl b) H1 := fun U hU hm hb => by
      subst hb
      exact ⟨v, .ref _, .type U, .ref _, false, rfl, .own _, tyx_of hz r1.ext rv hU, k.no U hm, F1, S1, .bl false, x1, r1, rfl, q2⟩
    cases d with
    | non => exact main _ rfl (by decide) (Option.some.inj eb).symm
    | bl _ => exact main _ rfl (by decide) (Option.some.inj eb).symm
    | int _ => exact main _ rfl (by decide) (Option.some.inj eb).symm
    | str _ => exact main _ rfl (by decide) (Option.some.inj eb).symm
    | tup _ => exact main _ rfl (by decide) (Option.some.inj eb).symm
    | lst _ => exact main _ rfl (by decide) (Option.some.inj eb).symm
    | dK _ => exact main _ rfl (by decide) (Option.some.inj eb).symm
    | dT _ => cases eb
    | scr _ => exact main _ rfl (by decide) (Option.some.inj eb).symm
    | stt => exact main _ rfl (by decide) (Option.some.inj eb).symm
    | ins c' l =>
      by_cases ec : c' = c
      · subst ec
        have eb' : b = true := by
          have e2 : (if c' = c' then some true else none) = some b := eb
          rw [if_pos rfl] at e2
          exact (Option.some.inj e2).symm
        subst eb'
        obtain ⟨a, dx, fs, rfl, h2, _, _⟩ := rv
        exact ⟨_, .ref _, .ref _, .ref _, true, rfl, .own _, .base (.ins h2 cl k.ha k.hn k.ht k.hm), by unfold PySem.W.kitOne; simp, F1, S1, .bl true, x1, r1, rfl, q2⟩
      · have e2 : (if c' = c then some true else none) = some b := eb
        rw [if_neg ec] at e2; cases e2
end
end DL

namespace DL
open PySem L2 PySem.Spec PyProof.Rows
theorem turn_long {P : Program} {w : World} {K : PySem.W.Frag} {tg : Expr} (it : Addr) (lo : Int) (n : Nat) : Turn P w K tg (Itr lo n) [it] it (fun i h => IsLongIter h it (lo + (i : Nat) * 1) ((n : Int) - (i : Nat)) 1) where
  mem := by simp
  obj := fun i h st b hb => by
    have e : b = it := by simpa using hb
    subst e
    exact ⟨_, st, fun v z => by
      have z' : Data.fields _ = Data.cell v := z
      cases z'⟩
  keep := fun i h h' st k => k it (by simp) _ st
  item := by
    intro X hP hw hK hc i pins s σ H E I hf st hg
    subst hP hw hK
    obtain ⟨f0, f1, f2, f3, f4, f5⟩ := hf it (by simp)
    have W := Walks.longrange (prog := X.prog) (w := X.w) (I.ok.hd hc) it lo 1 n
    refine W.item i s _ _ hg st fun v h' tk hv st' kk => ?_
    obtain ⟨t, rfl⟩ := hv
    have I1 : L2.Inv X pins σ H { s with heap := h', toks := tk } := I.turned (fun b o hb e => kk b o (by simpa using hb) e) f0 f1 f3 f4 f5
    refine ⟨_, rfl, go_of (s := { s with heap := h', toks := tk }) (n := "longrange_iterator") st' rfl rfl (by decide) ⟨.int (lo + i), H, I1, ⟨t, ?_⟩, ⟨rfl, rfl⟩, st', fun b hb => (hf b hb).1⟩⟩
    rw [Int.mul_one]
  done := by
    intro X hP hw hK hc i pins s σ H E I hf st hg
    subst hP hw hK
    obtain ⟨f0, f1, f2, f3, f4, f5⟩ := hf it (by simp)
    exact wpAny_pyNext_long_end (I.ok.hd hc) st (by have : n ≤ i := hg; omega) fun h' eb => ⟨rfl, I.turned (t' := s.toks) (fun b o hb e => eb b o hb e) f0 f1 f3 f4 f5⟩
  self := fun _ _ _ _ _ st h => wpAny_pyIter_longiter st h
theorem range_any {X : Cx} {tg : Expr} {pins : List (Addr × Obj)} {σ : L2.St} {H : Hp} {s : Shared} {R : It → Hp → Prop} {E : Value → Shared → Prop} {lo hi : Int} {t u v : Tok} {tk : Nat} (I : L2.Inv X pins σ H s)
    (q : R (Itr lo (hi - lo).toNat) H) : wpAny (model X.prog X.w) X.A (pyIter (.ref s.heap.objs.size)) (PIE X pins σ tg R) E { s with heap := s.heap.push { cls := .type "range", data := .fields #[.int lo t, .int hi u, .int 1 v] }, toks := tk } := by
  have I1 : L2.Inv X pins σ H { s with heap := s.heap.push { cls := .type "range", data := .fields #[.int lo t, .int hi u, .int 1 v] }, toks := tk } := I.kept fun b o e => Heap.get?_push_of_some _ e
  have e1 : lo + ((0 : Nat) : Int) * 1 = lo := by simp
  have e2 : (((hi - lo).toNat : Nat) : Int) - ((0 : Nat) : Int) = Builtin.Range.rangeSize lo hi 1 := by rw [rangeSize_one]; split <;> omega
  cases hs : Builtin.Range.small lo hi 1 with
  | true =>
    refine wpAny_pyIter_range (IsRange.new ..) hs ?_
    refine ⟨(s.heap.push { cls := .type "range", data := .fields #[.int lo t, .int hi u, .int 1 v] }).objs.size, [(s.heap.push { cls := .type "range", data := .fields #[.int lo t, .int hi u, .int 1 v] }).objs.size], _, _, H, rfl,
      I1.kept (t' := tk) fun b o e => Heap.get?_push_of_some _ e, turn_range _ lo (hi - lo).toNat, ?_, fun b hb => ?_, q⟩
    · show IsRangeIter _ _ (lo + ((0 : Nat) : Int) * 1) ((((hi - lo).toNat : Nat) : Int) - ((0 : Nat) : Int)) 1
      rw [e1, e2]
      exact Heap.get?_push_size _ rfl
    · have e : b = (s.heap.push { cls := .type "range", data := .fields #[.int lo t, .int hi u, .int 1 v] }).objs.size := by simpa using hb
      subst e
      exact I1.fpOk (Nat.le_refl _) (I1.hok.fresh (Nat.le_refl _))
  | false =>
    refine wpAny_pyIter_longrange (IsRange.new ..) hs ?_
    refine ⟨(s.heap.push { cls := .type "range", data := .fields #[.int lo t, .int hi u, .int 1 v] }).objs.size, [(s.heap.push { cls := .type "range", data := .fields #[.int lo t, .int hi u, .int 1 v] }).objs.size], _, _, H, rfl,
      I1.kept (t' := tk) fun b o e => Heap.get?_push_of_some _ e, turn_long _ lo (hi - lo).toNat, ?_, fun b hb => ?_, q⟩
    · show IsLongIter _ _ (lo + ((0 : Nat) : Int) * 1) ((((hi - lo).toNat : Nat) : Int) - ((0 : Nat) : Int)) 1
      rw [e1, e2]
      exact Heap.get?_push_size _ rfl
    · have e : b = (s.heap.push { cls := .type "range", data := .fields #[.int lo t, .int hi u, .int 1 v] }).objs.size := by simpa using hb
      subst e
      exact I1.fpOk (Nat.le_refl _) (I1.hok.fresh (Nat.le_refl _))
def iRngA1 (ta : TA) : TI := fun σ H R => ta σ H fun vs H1 => ∃ j : Int, vs = [.int j] ∧ R (Itr 0 j.toNat) H1
def iRngA2 (ta : TA) : TI := fun σ H R => ta σ H fun vs H1 => ∃ i j : Int, vs = [.int i, .int j] ∧ R (Itr i (j - i).toNat) H1
section
variable {X : Cx} {tg : Expr}
theorem pi_rangeA1 {a : Expr} {ta : TA} {p pos : Pos} (hg : Gl X "range") (hm : X.mg "range" = none) (ha : PA X [a] ta) (hs : starEach [a] X.env = [(false, eval a X.env)] := by rfl) : PI X tg (.Call (.Name "range" p) [a] [] pos) (iRngA1 ta) := by
  refine ⟨fun pins s σ H R I h => ?_⟩
  refine Call_ (ld_blt I hg hm boot_range (PyProof.Rows.callWith_type1 (thn (ha.run pos pins s σ H _ I h) fun us s1 ⟨vs, H1, I1, r1, q1⟩ => ?_) hs rfl))
  obtain ⟨j, e, q⟩ := q1
  subst e
  cases r1 with
  | cons r rr =>
    cases rr
    obtain ⟨t, rfl⟩ := r
    exact call_range_1 (range_any I1 (by simpa using q))
theorem pi_rangeA2 {a b : Expr} {ta : TA} {p pos : Pos} (hg : Gl X "range") (hm : X.mg "range" = none) (ha : PA X [a, b] ta) (hs : starEach [a, b] X.env = [(false, eval a X.env), (false, eval b X.env)] := by rfl) (hs2 : starEach [b] X.env = [(false, eval b X.env)] := by rfl) :
    PI X tg (.Call (.Name "range" p) [a, b] [] pos) (iRngA2 ta) := by
  refine ⟨fun pins s σ H R I h => ?_⟩
  refine Call_ (ld_blt I hg hm boot_range (PyProof.Rows.callWith_type1 (thn (ha.run pos pins s σ H _ I h) fun us s1 ⟨vs, H1, I1, r1, q1⟩ => ?_) (by rw [hs, hs2]) (by rw [hs2]; rfl)))
  obtain ⟨i, j, e, q⟩ := q1
  subst e
  cases r1 with
  | cons r rr =>
    cases rr with
    | cons r' rr =>
      cases rr
      obtain ⟨t, rfl⟩ := r
      obtain ⟨t', rfl⟩ := r'
      exact call_range_2 (range_any I1 q)
end
def wA1 (f : DE) : DI := fun S R => f S fun d S' => onI (fun j => R (rng 0 j.toNat) S') d
def wA2 (f g : DE) : DI := fun S R => f S fun d S1 => g S1 fun e S2 => onI (fun i => onI (fun j => R (rng i (j - i).toNat) S2) e) d
section
variable {X : Cx} {z : Z} {tg e a b : Expr}
theorem ji_rangeA1 {p pos : Pos} {f : DE} (hg : Gl X "range") (hm : X.mg "range" = none) (h : JE X z a f) (hs : starEach [a] X.env = [(false, eval a X.env)] := by rfl) : JI X z tg (.Call (.Name "range" p) [a] [] pos) (wA1 f) :=
  JI.of (pi_rangeA1 hg hm (pa_cons h pa_nil hs) hs) fun F σ H S Rw r hf => tE.use r hf fun v H1 F1 S1 d x1 r1 h1 q => by
    obtain ⟨j, rfl, q3⟩ := onI.get q
    exact ⟨j, by rw [show v = .int j from h1], F1, S1, _, x1, r1, itr_ok, q3⟩
theorem ji_rangeA2 {p pos : Pos} {f g : DE} (hg : Gl X "range") (hm : X.mg "range" = none) (h : JE X z a f) (k : JE X z b g) (hs : starEach [a, b] X.env = [(false, eval a X.env), (false, eval b X.env)] := by rfl) (hs1 : starEach [b] X.env = [(false, eval b X.env)] := by rfl) : JI X z tg (.Call (.Name "range" p) [a, b] [] pos) (wA2 f g) :=
  JI.of (pi_rangeA2 hg hm (pa_cons h (pa_cons k pa_nil hs1) (by rw [hs, hs1])) hs hs1) fun F σ H S Rw r hf => tE.use r hf fun v H1 F1 S1 d x1 r1 h1 q => tE.use r1 q fun w H2 F2 S2 d2 x2 r2 h2 q2 => by
    obtain ⟨i, rfl, q3⟩ := onI.get q2
    obtain ⟨j, rfl, q5⟩ := onI.get q3
    exact ⟨i, j, by rw [show v = .int i from h1, show w = .int j from h2], F2, S2, _, x1.trans x2, r2, itr_ok, q5⟩
end
end DL

namespace DL
open PySem L2 PySem.Spec PyProof.Rows
def numL : Nat → List D → List D
  | _, [] => []
  | i, d :: r => .tup [.int (i : Nat), d] :: numL (i + 1) r
theorem numL_at : ∀ {l : List D} {k i : Nat}, (numL k l)[i]? = (l[i]?).map fun d => D.tup [.int ((k + i : Nat) : Int), d]
  | [], k, i => by simp [numL]
  | d :: r, k, 0 => by simp [numL]
  | d :: r, k, i + 1 => by
    have := numL_at (l := r) (k := k + 1) (i := i)
    simp only [numL, List.getElem?_cons_succ, this]
    congr 2; funext d; congr 3; omega
theorem numL_len : ∀ {l : List D} {k : Nat}, (numL k l).length = l.length
  | [], k => rfl
  | d :: r, k => by simp [numL, numL_len]
def zipL : List D → List D → List D
  | d :: r, e :: s => .tup [d, e] :: zipL r s
  | _, _ => []
theorem zipL_at : ∀ {l m : List D} {i : Nat} {d e : D}, l[i]? = some d → m[i]? = some e → (zipL l m)[i]? = some (.tup [d, e])
  | [], m, i, d, e, h, _ => by simp at h
  | _ :: _, [], i, d, e, _, h => by simp at h
  | a :: l, b :: m, 0, d, e, h, k => by simp at h k; subst h; subst k; rfl
  | a :: l, b :: m, i + 1, d, e, h, k => by
    simp only [zipL, List.getElem?_cons_succ] at h k ⊢
    exact zipL_at h k
theorem zipL_len : ∀ {l m : List D}, (zipL l m).length = min l.length m.length
  | [], m => by simp [zipL]
  | _ :: _, [] => by simp [zipL]
  | a :: l, b :: m => by simp [zipL, zipL_len]
section
variable {n : Nm}
theorem ite_ok {F : Hp} {p : Addr} {xs : List V} {l : List D} (h : SqL n.K F p xs) (s : Rps n F l xs) : ItOk n (Ite n.K p) F (numL 0 l) where
  go := fun F1 H1 i x1 x2 hi => by
    rw [numL_len] at hi
    have hi' : i < xs.length := by rw [s.length]; exact hi
    exact ⟨xs, xs[i], x2.sqL (x1.sqL h), List.getElem?_eq_getElem hi'⟩
  yld := fun F1 H1 i v H2 x1 x2 hy hi => by
    obtain ⟨T, x, rfl, hT, rfl, q⟩ := hy
    obtain ⟨d, e1, h1⟩ := s.getV (q xs (x2.sqL (x1.sqL h)))
    have fT := x2.free hT
    have y := Ext.new (n := n) (o := .tup [.int (i : Nat), x]) fT
    refine ⟨.tup [.int ((0 + i : Nat) : Int), d], upd F1 T (.tup [.int (i : Nat), x]), by rw [numL_at, e1]; rfl, y, ?_, ?_, ?_, ?_⟩
    · intro a o ha
      by_cases e : a = T
      · subst e; rw [upd_same] at ha ⊢; cases ha; exact ⟨_, rfl, .refl _⟩
      · rw [upd_ne e] at ha ⊢; exact x2 a o ha
    · intro a o ha
      by_cases e : a = T
      · subst e; exact .inr (.inl hT)
      · rw [upd_ne e] at ha; exact .inl ⟨o, ha⟩
    · intro a o ha
      rw [upd_ne (ne_of_none ha hT)]; exact ha
    · exact ⟨T, _, rfl, upd_same, _, _, rfl, by rw [Nat.zero_add], _, _, rfl, (h1.mono x1).mono y, rfl⟩
  stop := fun F1 H1 i x1 x2 hi => by
    rw [numL_len] at hi
    exact ⟨xs, x2.sqL (x1.sqL h), by rw [s.length]; exact hi⟩
theorem itz_ok {F : Hp} {p q : Addr} {xs ys : List V} {l m : List D} (h : SqL n.K F p xs) (s : Rps n F l xs) (h' : SqL n.K F q ys) (s' : Rps n F m ys) : ItOk n (Itz n.K p q) F (zipL l m) where
  go := fun F1 H1 i x1 x2 hi => by
    rw [zipL_len] at hi
    have hi1 : i < xs.length := by rw [s.length]; omega
    have hi2 : i < ys.length := by rw [s'.length]; omega
    exact ⟨xs, ys, xs[i], ys[i], x2.sqL (x1.sqL h), x2.sqL (x1.sqL h'), List.getElem?_eq_getElem hi1, List.getElem?_eq_getElem hi2⟩
  yld := fun F1 H1 i v H2 x1 x2 hy hi => by
    obtain ⟨T, x, y, rfl, hT, rfl, q1, q2⟩ := hy
    obtain ⟨d, e1, h1⟩ := s.getV (q1 xs (x2.sqL (x1.sqL h)))
    obtain ⟨e, e2, h2⟩ := s'.getV (q2 ys (x2.sqL (x1.sqL h')))
    have fT := x2.free hT
    have w := Ext.new (n := n) (o := .tup [x, y]) fT
    refine ⟨.tup [d, e], upd F1 T (.tup [x, y]), zipL_at e1 e2, w, ?_, ?_, ?_, ?_⟩
    · intro a o ha
      by_cases e : a = T
      · subst e; rw [upd_same] at ha ⊢; cases ha; exact ⟨_, rfl, .refl _⟩
      · rw [upd_ne e] at ha ⊢; exact x2 a o ha
    · intro a o ha
      by_cases e : a = T
      · subst e; exact .inr (.inl hT)
      · rw [upd_ne e] at ha; exact .inl ⟨o, ha⟩
    · intro a o ha
      rw [upd_ne (ne_of_none ha hT)]; exact ha
    · exact ⟨T, _, rfl, upd_same, _, _, rfl, (h1.mono x1).mono w, _, _, rfl, (h2.mono x1).mono w, rfl⟩
  stop := fun F1 H1 i x1 x2 hi => by
    rw [zipL_len] at hi
    exact ⟨xs, ys, x2.sqL (x1.sqL h), x2.sqL (x1.sqL h'), by rw [s.length, s'.length]; omega⟩
theorem itv_ok {F : Hp} {p : Addr} {xs : List V} {l : List D} (h : SqL n.K F p xs) (s : Rps n F l xs) : ItOk n (Itv n.K p xs.length) F l.reverse where
  go := fun F1 H1 i x1 x2 hi => by
    rw [List.length_reverse, ← s.length] at hi
    have hi' : xs.length - 1 - i < xs.length := by omega
    exact ⟨hi, xs, xs[xs.length - 1 - i], x2.sqL (x1.sqL h), List.getElem?_eq_getElem hi'⟩
  yld := fun F1 H1 i v H2 x1 x2 ⟨e, q⟩ hi => by
    subst e
    rw [List.length_reverse] at hi
    obtain ⟨d, e1, h1⟩ := s.getV (q xs (x2.sqL (x1.sqL h)))
    rw [s.length] at e1
    exact ⟨d, F1, by rw [List.getElem?_reverse hi]; exact e1, Ext.refl, x2, fun a o h => .inl ⟨o, h⟩, fun a o h => h, h1.mono x1⟩
  stop := fun F1 H1 i x1 x2 hi => by
    rw [List.length_reverse, ← s.length] at hi
    exact hi
end
/-- a list or the script as an operand -/
theorem Rp.list {n : Nm} {F : Hp} {d : D} {v : V} {l : List D} (hd : d = .lst l ∨ ∃ ns, d = .scr ns ∧ l = ns.map D.int) (h : Rp n F d v) : ∃ a xs, v = .ref a ∧ SqL n.K F a xs ∧ Rps n F l xs := by
  rcases hd with rfl | ⟨ns, rfl, rfl⟩
  · obtain ⟨a, xs, rfl, h1, s⟩ := h
    exact ⟨a, xs, rfl, SqL.of h1, s⟩
  · obtain ⟨a, rfl, h1⟩ := h
    exact ⟨a, _, rfl, h1, Rps.of_ints ns⟩
@[reducible] def onLS (k : List D → Prop) : D → Prop
  | .lst l => k l
  | .scr ns => k (ns.map D.int)
  | _ => False
theorem onLS.get {k : List D → Prop} : ∀ {d : D}, onLS k d → ∃ l, (d = .lst l ∨ ∃ ns, d = .scr ns ∧ l = ns.map D.int) ∧ k l
  | .lst l, h => ⟨l, .inl rfl, h⟩
  | .scr ns, h => ⟨_, .inr ⟨ns, rfl, rfl⟩, h⟩
  | .non, h => h.elim
  | .bl _, h => h.elim
  | .int _, h => h.elim
  | .str _, h => h.elim
  | .tup _, h => h.elim
  | .dK _, h => h.elim
  | .dT _, h => h.elim
  | .ins _ _, h => h.elim
def wEnum (f : DE) : DI := fun S R => f S fun d S' => onLS (fun l => R (numL 0 l) S') d
def wZip (f g : DE) : DI := fun S R => f S fun d S1 => g S1 fun e S2 => onLS (fun l => onLS (fun m => R (zipL l m) S2) e) d
def wRev (f : DE) : DI := fun S R => f S fun d S' => onLS (fun l => R l.reverse S') d
section
variable {X : Cx} {z : Z} {tg a b : Expr} {p pos tpos : Pos} {elts : List Expr} {kk : Nat} {f g : DE}
theorem ji_enum (hz : z.n.K = X.K) (hg : Gl X "enumerate") (hm : X.mg "enumerate" = none) (h : JE X z a f) (hs : starEach [a] X.env = [(false, eval a X.env)] := by rfl) : JI X z (.Tuple elts kk tpos) (.Call (.Name "enumerate" p) [a] [] pos) (wEnum f) :=
  JI.of (pi_enum hg hm (pa_cons h pa_nil hs) hs) fun F σ H S Rw r hf => tE.use r hf fun v H1 F1 S1 d x1 r1 h1 q => by
    obtain ⟨l, hd, q1⟩ := onLS.get q
    obtain ⟨c, xs, rfl, h2, s⟩ := h1.list hd
    exact ⟨c, xs, rfl, r1.ext.sqL (hz ▸ h2), F1, S1, _, x1, r1, hz ▸ ite_ok h2 s, q1⟩
theorem ji_zip (hz : z.n.K = X.K) (hg : Gl X "zip") (hm : X.mg "zip" = none) (h : JE X z a f) (k : JE X z b g)
    (hs : starEach [a, b] X.env = (false, eval a X.env) :: starEach [b] X.env := by rfl) (hs2 : starEach [b] X.env = [(false, eval b X.env)] := by rfl) (hpl : (backTo pos (starEach [b] X.env)).any (·.1) = false := by rfl) : JI X z (.Tuple elts kk tpos) (.Call (.Name "zip" p) [a, b] [] pos) (wZip f g) :=
  JI.of (pi_zip hg hm (pa_cons h (pa_cons k pa_nil hs2) hs) hs hpl) fun F σ H S Rw r hf => tE.use r hf fun v H1 F1 S1 d x1 r1 h1 q => tE.use r1 q fun w H2 F2 S2 e x2 r2 h2 q2 => by
    obtain ⟨l, hd, q3⟩ := onLS.get q2
    obtain ⟨m, he, q4⟩ := onLS.get q3
    obtain ⟨c, xs, rfl, k1, s1⟩ := (h1.mono x2).list hd
    obtain ⟨c', ys, rfl, k2, s2⟩ := h2.list he
    exact ⟨c, c', xs, ys, rfl, r2.ext.sqL (hz ▸ k1), r2.ext.sqL (hz ▸ k2), F2, S2, _, x1.trans x2, r2, hz ▸ itz_ok k1 s1 k2 s2, q4⟩
theorem ji_rev (hz : z.n.K = X.K) (hg : Gl X "reversed") (hm : X.mg "reversed" = none) (h : JE X z a f) (hs : starEach [a] X.env = [(false, eval a X.env)] := by rfl) : JI X z tg (.Call (.Name "reversed" p) [a] [] pos) (wRev f) :=
  JI.of (pi_reversed hg hm (pa_cons h pa_nil hs) hs) fun F σ H S Rw r hf => tE.use r hf fun v H1 F1 S1 d x1 r1 h1 q => by
    obtain ⟨l, hd, q1⟩ := onLS.get q
    obtain ⟨c, xs, rfl, h2, s⟩ := h1.list hd
    exact ⟨c, xs, rfl, r1.ext.sqL (hz ▸ h2), F1, S1, _, x1, r1, hz ▸ itv_ok h2 s, q1⟩
end
@[reducible] def onInts (k : List Int → Prop) : List D → Prop
  | [] => k []
  | .int i :: r => onInts (fun is => k (i :: is)) r
  | _ => False
theorem onInts.get : ∀ {l : List D} {k : List Int → Prop}, onInts k l → ∃ ns, l = ns.map D.int ∧ k ns
  | [], k, h => ⟨[], rfl, h⟩
  | d :: r, k, h => by
    cases d with
    | int i =>
      obtain ⟨ns, rfl, q⟩ := onInts.get (l := r) h
      exact ⟨i :: ns, rfl, q⟩
    | _ => exact h.elim
theorem onInts_map {k : List Int → Prop} : ∀ {ns : List Int}, k ns → onInts k (ns.map D.int) := fun {ns} h => by
  induction ns generalizing k with
  | nil => exact h
  | cons i r ih => exact ih (k := fun is => k (i :: is)) h
@[reducible] def onBls (k : List Bool → Prop) : List D → Prop
  | [] => k []
  | .bl i :: r => onBls (fun is => k (i :: is)) r
  | _ => False
theorem onBls.get : ∀ {l : List D} {k : List Bool → Prop}, onBls k l → ∃ ns, l = ns.map D.bl ∧ k ns
  | [], k, h => ⟨[], rfl, h⟩
  | d :: r, k, h => by
    cases d with
    | bl i =>
      obtain ⟨ns, rfl, q⟩ := onBls.get (l := r) h
      exact ⟨i :: ns, rfl, q⟩
    | _ => exact h.elim
theorem onBls_map {k : List Bool → Prop} : ∀ {ns : List Bool}, k ns → onBls k (ns.map D.bl) := fun {ns} h => by
  induction ns generalizing k with
  | nil => exact h
  | cons i r ih => exact ih (k := fun is => k (i :: is)) h
theorem Rv.list {n : Nm} {F H : Hp} {d : D} {v : V} {l : List D} (x : Ext n F H) (hd : d = .lst l ∨ ∃ ns, d = .scr ns ∧ l = ns.map D.int) (h : Rv n F H d v) : ∃ a xs, v = .ref a ∧ SqL n.K H a xs ∧ Rps n F l xs := by
  rcases hd with rfl | ⟨ns, rfl, rfl⟩
  · obtain ⟨a, xs, rfl, h1, s⟩ := h
    exact ⟨a, xs, rfl, SqL.of h1, s⟩
  · obtain ⟨a, rfl, h1⟩ := h
    exact ⟨a, _, rfl, x.sqL h1, Rps.of_ints ns⟩
def gSum : GN := fun ds k => on1 (onLS fun l => onInts (fun ns => k (.int ns.sum)) l) ds
def gMax1 : GN := fun ds k => on1 (onLS fun l => onInts (fun ns => 0 < ns.length ∧ ∀ m, m ∈ ns → (∀ y, y ∈ ns → y ≤ m) → k (.int m)) l) ds
def gMin1 : GN := fun ds k => on1 (onLS fun l => onInts (fun ns => 0 < ns.length ∧ ∀ m, m ∈ ns → (∀ y, y ∈ ns → m ≤ y) → k (.int m)) l) ds
def gAny : GN := fun ds k => on1 (onLS fun l => onBls (fun bs => k (.bl (bs.any id))) l) ds
def gAll : GN := fun ds k => on1 (onLS fun l => onBls (fun bs => k (.bl (bs.all id))) l) ds
def gSortI : GN := fun ds k => on1 (onLS fun l => onInts (fun ns => ∀ ns' : List Int, ns'.Perm ns → ns'.Pairwise (· ≤ ·) → k (.lst (ns'.map D.int))) l) ds
def gList : GN := fun ds k => on1 (fun d => match d with
  | .lst l => k (.lst l)
  | .scr ns => k (.lst (ns.map D.int))
  | .tup l => k (.lst l)
  | _ => False) ds
def gTuple : GN := fun ds k => on1 (fun d => match d with
  | .lst l => k (.tup l)
  | .scr ns => k (.tup (ns.map D.int))
  | .tup l => k (.tup l)
  | _ => False) ds
section
variable {X : Cx} {z : Z}
theorem cd_sum (hz : z.n.K = X.K) (hc : X.calm = true) : CallD X z (.builtin "sum") gSum := ⟨⟨_, cr_sum hc, fun {F σ H S vs ds R} r rv q => by
  obtain ⟨d, rfl, q0⟩ := on1.get q
  obtain ⟨v, rfl, w1⟩ := rv.one
  obtain ⟨l, hd, q1⟩ := onLS.get q0
  obtain ⟨ns, rfl, q2⟩ := onInts.get q1
  obtain ⟨a, xs, rfl, h1, s1⟩ := w1.list r.ext hd
  rw [s1.ints] at h1
  exact ⟨a, ns, rfl, hz ▸ h1, F, S, _, Ext.refl, r, rfl, q2⟩⟩⟩
theorem cd_max1 (hz : z.n.K = X.K) (hc : X.calm = true) : CallD X z (.builtin "max") gMax1 := ⟨⟨_, cr_max hc, fun {F σ H S vs ds R} r rv q => by
  obtain ⟨d, rfl, q0⟩ := on1.get q
  obtain ⟨v, rfl, w1⟩ := rv.one
  obtain ⟨l, hd, q1⟩ := onLS.get q0
  obtain ⟨ns, rfl, hp, q2⟩ := onInts.get q1
  obtain ⟨a, xs, rfl, h1, s1⟩ := w1.list r.ext hd
  rw [s1.ints] at h1
  exact ⟨a, ns, rfl, hz ▸ h1, hp, fun m m1 m2 => ⟨F, S, _, Ext.refl, r, rfl, q2 m m1 m2⟩⟩⟩⟩
theorem cd_min1 (hz : z.n.K = X.K) (hc : X.calm = true) : CallD X z (.builtin "min") gMin1 := ⟨⟨_, cr_min hc, fun {F σ H S vs ds R} r rv q => by
  obtain ⟨d, rfl, q0⟩ := on1.get q
  obtain ⟨v, rfl, w1⟩ := rv.one
  obtain ⟨l, hd, q1⟩ := onLS.get q0
  obtain ⟨ns, rfl, hp, q2⟩ := onInts.get q1
  obtain ⟨a, xs, rfl, h1, s1⟩ := w1.list r.ext hd
  rw [s1.ints] at h1
  exact ⟨a, ns, rfl, hz ▸ h1, hp, fun m m1 m2 => ⟨F, S, _, Ext.refl, r, rfl, q2 m m1 m2⟩⟩⟩⟩
theorem cd_any (hz : z.n.K = X.K) (hc : X.calm = true) : CallD X z (.builtin "any") gAny := ⟨⟨_, cr_any hc, fun {F σ H S vs ds R} r rv q => by
  obtain ⟨d, rfl, q0⟩ := on1.get q
  obtain ⟨v, rfl, w1⟩ := rv.one
  obtain ⟨l, hd, q1⟩ := onLS.get q0
  obtain ⟨ns, rfl, q2⟩ := onBls.get q1
  obtain ⟨a, xs, rfl, h1, s1⟩ := w1.list r.ext hd
  rw [s1.bls] at h1
  exact ⟨a, ns, rfl, hz ▸ h1, F, S, _, Ext.refl, r, rfl, q2⟩⟩⟩
theorem cd_all (hz : z.n.K = X.K) (hc : X.calm = true) : CallD X z (.builtin "all") gAll := ⟨⟨_, cr_all hc, fun {F σ H S vs ds R} r rv q => by
  obtain ⟨d, rfl, q0⟩ := on1.get q
  obtain ⟨v, rfl, w1⟩ := rv.one
  obtain ⟨l, hd, q1⟩ := onLS.get q0
  obtain ⟨ns, rfl, q2⟩ := onBls.get q1
  obtain ⟨a, xs, rfl, h1, s1⟩ := w1.list r.ext hd
  rw [s1.bls] at h1
  exact ⟨a, ns, rfl, hz ▸ h1, F, S, _, Ext.refl, r, rfl, q2⟩⟩⟩
theorem cd_sortI (hz : z.n.K = X.K) : CallD X z (.builtin "sorted") gSortI := ⟨⟨_, cr_sortedI, fun {F σ H S vs ds R} r rv q => by
  obtain ⟨d, rfl, q0⟩ := on1.get q
  obtain ⟨v, rfl, w1⟩ := rv.one
  obtain ⟨l, hd, q1⟩ := onLS.get q0
  obtain ⟨ns, rfl, q2⟩ := onInts.get q1
  obtain ⟨a, xs, rfl, h1, s1⟩ := w1.list r.ext hd
  rw [s1.ints] at h1
  exact ⟨a, ns, rfl, hz ▸ h1, fun ns' p hp hs hn => ⟨_, S, .lst (ns'.map D.int), Ext.new (r.ext.free hn), r.lay _ hn, ⟨p, _, rfl, upd_same, Rps.of_ints ns'⟩, q2 ns' hp hs⟩⟩⟩⟩
theorem cd_list (hz : z.n.K = X.K) : CallD X z (.type "list") gList := ⟨⟨_, call_list_of, fun {F σ H S vs ds R} r rv q => by
  obtain ⟨d, rfl, q0⟩ := on1.get q
  obtain ⟨v, rfl, w1⟩ := rv.one
  cases d with
  | lst l =>
    obtain ⟨a, xs, rfl, h1, s1⟩ := w1
    exact ⟨a, xs, rfl, .inl (SqL.of h1), fun p hn => ⟨_, S, .lst l, Ext.new (r.ext.free hn), r.lay _ hn, ⟨p, _, rfl, upd_same, s1.mono (Ext.new (r.ext.free hn))⟩, q0⟩⟩
  | scr ns =>
    obtain ⟨a, rfl, h1⟩ := w1
    exact ⟨a, _, rfl, .inl (r.ext.sqL (hz ▸ h1)), fun p hn => ⟨_, S, .lst (ns.map D.int), Ext.new (r.ext.free hn), r.lay _ hn, ⟨p, _, rfl, upd_same, Rps.of_ints ns⟩, q0⟩⟩
  | tup l =>
    obtain ⟨a, xs, rfl, h1, s1⟩ := w1
    exact ⟨a, xs, rfl, .inr (SqT.of (r.ext.at h1 rfl)), fun p hn => ⟨_, S, .lst l, Ext.new (r.ext.free hn), r.lay _ hn, ⟨p, _, rfl, upd_same, s1.mono (Ext.new (r.ext.free hn))⟩, q0⟩⟩
  | _ => exact q0.elim⟩⟩
theorem cd_tuple (hz : z.n.K = X.K) : CallD X z (.type "tuple") gTuple := ⟨⟨_, call_tuple_of, fun {F σ H S vs ds R} r rv q => by
  obtain ⟨d, rfl, q0⟩ := on1.get q
  obtain ⟨v, rfl, w1⟩ := rv.one
  cases d with
  | lst l =>
    obtain ⟨a, xs, rfl, h1, s1⟩ := w1
    exact ⟨a, xs, rfl, .inl ⟨SqL.of h1, fun p hn => ⟨_, S, .tup l, Ext.new (r.ext.free hn), r.lay _ hn, ⟨p, _, rfl, upd_same, s1.mono (Ext.new (r.ext.free hn))⟩, q0⟩⟩⟩
  | scr ns =>
    obtain ⟨a, rfl, h1⟩ := w1
    exact ⟨a, _, rfl, .inl ⟨r.ext.sqL (hz ▸ h1), fun p hn => ⟨_, S, .tup (ns.map D.int), Ext.new (r.ext.free hn), r.lay _ hn, ⟨p, _, rfl, upd_same, Rps.of_ints ns⟩, q0⟩⟩⟩
  | tup l =>
    obtain ⟨a, xs, rfl, h1, s1⟩ := w1
    exact ⟨a, xs, rfl, .inr ⟨SqT.of (r.ext.at h1 rfl), F, S, .tup l, Ext.refl, r, ⟨a, xs, rfl, h1, s1⟩, q0⟩⟩
  | _ => exact q0.elim⟩⟩
end
end DL

namespace DL
open PySem L2 PySem.Spec PyProof.Rows
theorem Rep.setFld {z : Z} {F1 : Hp} {σ : L2.St} {H1 : Hp} {S1 : SS} {i c k : Nat} {l : List (Nat × D)} {d : D} {y : V} (ok : NmOk z.n) (hk : k < z.n.NM.length) (r1 : Rep z F1 σ H1 S1) (h1 : Rp z.n F1 d y) (g : getS S1 i = .slf c l) (hl : ∀ p ∈ l, p.1 < z.n.NM.length) (nk : lookN l k = none) :
    ∃ a dx fs, σ[i]? = some (some (.ref a)) ∧ H1 a = some (.ins (z.n.cm c) dx fs) ∧ fs.length < 1000 ∧ Rep z F1 σ (upd H1 a (.ins (z.n.cm c) dx (putF (z.n.fm k) y fs))) (setS S1 i (.slf c (l ++ [(k, d)]))) := by
    have g1 := getS_some g (by intro x; cases x)
    obtain ⟨a, dx, fs, e1, p1, h2, ⟨fs0, f0⟩, rx, gd, i0⟩ := r1.sl i _ g1
    have hlen : fs.length < 1000 := by
      have := nodup_sub gd.1 gd.2
      rw [List.length_map] at this
      exact Nat.lt_of_le_of_lt this ok.few
    have nk' := rx.keysOk ok hk hl nk
    refine ⟨a, dx, fs, e1, h2, hlen, ?_⟩
    rw [putF_new nk']
    have gd2 : Good z.n (fs ++ [(z.n.fm k, y)]) := by
      refine ⟨?_, fun g hg => ?_⟩
      · rw [List.map_append]
        refine List.nodup_append.mpr ⟨gd.1, by simp, fun p hp q hq e => ?_⟩
        simp at hq
        subst hq; subst e
        exact nk' hp
      · rw [List.map_append] at hg
        rcases List.mem_append.mp hg with h | h
        · exact gd.2 g h
        · simp at h
          subst h
          exact fm_mem hk
    have kp : ∀ b u, b ≠ a → H1 b = some u → (upd H1 a (.ins (z.n.cm c) dx (fs ++ [(z.n.fm k, y)]))) b = some u := fun b u n e => by rw [upd_ne n]; exact e
    refine ⟨fun b u e => ?_, fun b u e p => ?_, r1.new, by rw [setS_len, r1.len], fun j t hj => ?_, r1.pin, fun j b hb => ?_, r1.pf, fun j m c1 c2 b hj hm ej em => ?_⟩
    · obtain ⟨u', e', le⟩ := r1.ext b u e
      by_cases q : b = a
      · subst q
        rw [h2] at e'; cases e'
        refine ⟨_, upd_same, le.trans (.inr ⟨_, _, fs, _, rfl, rfl, fun g v h => lookup_app h, gd2⟩)⟩
      · exact ⟨u', kp b u' q e', le⟩
    · refine kp b u (fun q => ?_) (r1.keep b u e p)
      subst q; exact p i p1
    · rcases setS_get hj with ⟨rfl, rfl⟩ | ⟨ne, hj'⟩
      · exact ⟨a, dx, _, e1, p1, upd_same, ⟨fs0, f0⟩, rx.snoc h1, gd2, i0⟩
      · have q := r1.sl j t hj'
        cases t with
        | free => trivial
        | val d => exact q
        | own c2 =>
          obtain ⟨b, e2, f2, n2, c2'⟩ := q
          have nb : b ≠ a := fun e => by subst e; rw [f0] at f2; cases f2
          exact ⟨b, e2, f2, n2, c2'.mono Ext.refl fun o' h' _ => kp b o' nb h'⟩
        | slf c' l' =>
          obtain ⟨b, dx', fs', e2, p2, h2', f2, rx', gd', j0⟩ := q
          exact absurd (show j = i by omega) ne
    · obtain ⟨h3, u, h4, h5⟩ := r1.pi0 j b hb
      refine ⟨h3, ?_⟩
      by_cases q : b = a
      · subst q; exact ⟨_, upd_same, rfl⟩
      · exact ⟨u, kp b u q h4, h5⟩
    · rcases setS_get hj with ⟨rfl, e⟩ | ⟨ne, hj'⟩
      · cases e
      · rcases setS_get hm with ⟨rfl, e⟩ | ⟨ne', hm'⟩
        · cases e
        · exact r1.inj j m c1 c2 b hj' hm' ej em
def gAttr (K : PySem.W.Frag) (to : TE) (f : Str) : TG := fun y σ H Q => to σ H fun x H2 => ∃ a C dx fs, x = .ref a ∧ H2 a = some (.ins C dx fs) ∧ Cls K C ∧ NoAttr K C f ∧ fs.length < 1000 ∧ Q σ (upd H2 a (.ins C dx (putF f y fs)))
theorem pg_attr {X : Cx} {o : Expr} {f : Str} {to : TE} {pos : Pos} (ho : PE X o to) : PG X (.Attribute o f pos) (gAttr X.K to f) := by
  refine ⟨fun pins s σ H v u Q I r h => ?_⟩
  refine PySem.W.kas_attr (thn (ho.run pins s σ H _ I h) fun ov s2 ⟨x, H2, I2, rx, a, C, dx, fs, ex, ea, c, n, l, q2⟩ => ?_)
  subst ex
  obtain rfl : ov = Value.ref a := rx
  exact setattr_ok I2 ea c n l r fun s3 I3 => ⟨σ, _, I3, q2⟩
def gFld (i c k m : Nat) : DG := fun d S R => onSlf c (fun l => (∀ p ∈ l, p.1 < m) ∧ lookN l k = none ∧ R (setS S i (.slf c (l ++ [(k, d)])))) (getS S i)
theorem jg_fld {X : Cx} {z : Z} {o : Expr} {f : Str} {pos : Pos} {i c k m : Nat} (hz : z.n.K = X.K) (ok : NmOk z.n) (hm : z.n.NM.length = m) (hk : k < m) (ho : PE X o (tVar i)) (hc : Cls X.K (z.n.cm c)) (hn : NoAttr X.K (z.n.cm c) f) (hf : z.n.fm k = f) : JG X z (.Attribute o f pos) (gFld i c k m) :=
  JG.of (pg_attr ho) fun F σ H S d v R r hd q => by
    subst hm; subst hf
    obtain ⟨l, g, hl, nk, q1⟩ := onSlf.get q
    obtain ⟨a, dx, fs, e1, h2, hlen, r2⟩ := Rep.setFld ok hk r hd g hl nk
    exact ⟨_, e1, a, _, dx, fs, rfl, h2, hc, hn, hlen, F, _, Ext.refl, r2, q1⟩
def fCat (fo fp : DO) : DF := fun S R => fo S fun o S1 => fp S1 fun p S2 => view S2 (fun d => view S2 (fun e => onL (fun l => onL (fun m => l.length + m.length ≤ sizeLine ∧ R (.lst (l ++ m)) S2) e) d) p) o
def fListOf (fo : DO) : DF := fun S R => fo S fun o S1 => view S1 (fun d => match d with
  | .lst l => R (.lst l) S1
  | .scr ns => R (.lst (ns.map D.int)) S1
  | .tup l => R (.lst l) S1
  | _ => False) o
section
variable {X : Cx} {z : Z} {a b : Expr} {p pos : Pos} {fo fp : DO}
theorem jf_cat (ha : JO X z a fo) (hb : JO X z b fp) : JF X z (.BinOp a .Add b pos) (fCat fo fp) :=
  JF.of (pe_op op_cat ha hb) fun F σ H S R r hf => tO.use r hf fun v1 H1 F1 S1 a1 x1 r1 k1 q1 => tO.use r1 q1 fun v2 H2 F2 S2 a2 x2 r2 k2 q2 => by
    obtain ⟨d, rv1, q3⟩ := (k1.mono x2).view r2 q2
    obtain ⟨e, rv2, q4⟩ := k2.view r2 q3
    obtain ⟨l, rfl, q5⟩ := onL.get q4
    obtain ⟨m, rfl, hl, q6⟩ := onL.get q5
    obtain ⟨c, xs, rfl, h1, s1⟩ := rv1
    obtain ⟨c', ys, rfl, h2, s2⟩ := rv2
    refine ⟨c, c', xs, ys, rfl, rfl, h1, h2, by rw [s1.length, s2.length]; exact hl, fun t ht => ?_⟩
    obtain ⟨r4, fr⟩ := r2.fresh (c := .lst (l ++ m)) (o := .lst (xs ++ ys)) ht ⟨_, upd_same, s1.append s2⟩
    exact ⟨F2, S2, _, t, rfl, x1.trans x2, r4, fr, q6⟩
theorem jf_list (hz : z.n.K = X.K) (hg : Gl X "list") (hm : X.mg "list" = none) (ha : JO X z a fo) (hv : bootBuiltins "list" = some (.type "list") := by decide +kernel)
    (he : starEach [a] X.env = (false, eval a X.env) :: starEach [] X.env := by rfl) (hpl : (backTo pos (starEach [] X.env)).any (·.1) = false := by rfl) : JF X z (.Call (.Name "list" p) [a] [] pos) (fListOf fo) :=
  JF.of (pe_callTy call_list_of hg hm hv (pa_cons ha pa_nil he) (he := he) (hpl := hpl)) fun F σ H S R r hf => tO.use r hf fun v H1 F1 S1 a1 x1 r1 h1 q1 => by
    obtain ⟨d, rv, q0⟩ := h1.view r1 q1
    cases d with
    | lst l =>
      obtain ⟨c, xs, rfl, h2, s1⟩ := rv
      refine ⟨c, xs, rfl, .inl (SqL.of h2), fun t ht => ?_⟩
      obtain ⟨r4, fr⟩ := r1.fresh (c := .lst l) (o := .lst xs) ht ⟨_, upd_same, s1⟩
      exact ⟨F1, S1, _, t, rfl, x1, r4, fr, q0⟩
    | scr ns =>
      obtain ⟨c, rfl, h2⟩ := rv
      refine ⟨c, _, rfl, .inl (r1.ext.sqL (hz ▸ h2)), fun t ht => ?_⟩
      obtain ⟨r4, fr⟩ := r1.fresh (c := .lst (ns.map D.int)) (o := .lst (ns.map V.int)) ht ⟨_, upd_same, Rps.of_ints ns⟩
      exact ⟨F1, S1, _, t, rfl, x1, r4, fr, q0⟩
    | tup l =>
      obtain ⟨c, xs, rfl, h2, s1⟩ := rv
      refine ⟨c, xs, rfl, .inr (SqT.of (r1.ext.at h2 rfl)), fun t ht => ?_⟩
      obtain ⟨r4, fr⟩ := r1.fresh (c := .lst l) (o := .lst xs) ht ⟨_, upd_same, s1⟩
      exact ⟨F1, S1, _, t, rfl, x1, r4, fr, q0⟩
    | _ => exact q0.elim
def dIdx (fo : DO) (f : DE) : DE := fun S R => fo S fun o S1 => view S1 (onL fun _ => f S1 fun e S2 => view S2 (onL fun l => onI (fun y => onInts (fun ns => ∃ j, ns[j]? = some y ∧ (∀ m, m < j → ns[m]? ≠ some y) ∧ R (.int (j : Nat)) S2) l) e) o) o
theorem je_idx {apos cpos : Pos} {f : DE} {o e : Expr} (hz : z.n.K = X.K) (ho : JO X z o fo) (he : JE X z e f)
    (hbase : attributeBase o "index" X.env (eval o X.env) = eval o X.env := by rfl)
    (hfew : ((backTo cpos (starEach [e] X.env)).all (fun x => !x.1) && (backToKw cpos (keywordEach [] X.env)).all (fun x => x.1.isSome)
      && decide ([e].length + ([] : List Keyword).length + (if ([] : List Keyword).isEmpty then 0 else 1) < 30)) = true := by rfl)
    (hline : (apos.endLine == cpos.line) = true := by rfl) (hs : starEach [e] X.env = (false, eval e X.env) :: starEach [] X.env := by rfl) (hplain : (backTo cpos (starEach [] X.env)).any (·.1) = false := by rfl) :
    JE X z (.Call (.Attribute o "index" apos) [e] [] cpos) (dIdx fo f) :=
  JE.of (pe_bm PySem.F.plainAttrs_list PySem.F.slot_list_index PySem.F.type_list_index mt_index ho (pa_cons he pa_nil hs) hbase hfew hline hs hplain) fun F σ H S R r hf => tO.use r hf fun v H1 F1 S1 a1 x1 r1 h1 q1 => by
    obtain ⟨d, rv, q0⟩ := h1.view r1 q1
    obtain ⟨l0, rfl, q2⟩ := onL.get q0
    obtain ⟨c, xs, rfl, h2, s1⟩ := rv
    refine ⟨.inl ⟨rfl, _, SqL.of h2⟩, tE.use r1 q2 fun w H2 F2 S2 d2 x2 r2 h3 q3 => ?_⟩
    obtain ⟨d, rv, q4⟩ := (h1.mono x2).view r2 q3
    obtain ⟨l, rfl, q5⟩ := onL.get q4
    obtain ⟨c', ys, e1, h4, s2⟩ := rv
    cases e1
    obtain ⟨y, rfl, q6⟩ := onI.get q5
    obtain ⟨ns, rfl, j, hj, hm, q7⟩ := onInts.get q6
    have e3 := s2.ints
    subst e3
    rw [show w = .int y from h3]
    refine ⟨c, ns.map V.int, .int y, j, .int y, rfl, rfl, SqL.of h4, rfl, ?_, by rw [List.getElem?_map, hj]; rfl, by simp [eqV], fun m z' hlt hz' => ?_, F2, S2, _, x1.trans x2, r2, rfl, q7⟩
    · simp [flatV]
    · rw [List.getElem?_map] at hz'
      cases e5 : ns[m]? with
      | none => rw [e5] at hz'; cases hz'
      | some u =>
        rw [e5] at hz'
        cases hz'
        have : u ≠ y := fun q => hm m hlt (by rw [e5, q])
        simp [eqV, this]
def dBits (f : DE) : DE := fun S R => f S fun d S1 => onI (fun i => R (.int (Builtin.Int.intBits i : Nat)) S1) d
theorem je_bits {apos : Pos} {f : DE} (he : JE X z a f) (hbase : attributeBase a "bit_length" X.env (eval a X.env) = eval a X.env := by rfl) (hline : (apos.endLine == pos.line) = true := by rfl) : JE X z (.Call (.Attribute a "bit_length" apos) [] [] pos) (dBits f) :=
  JE.of (pe_bits he hbase hline) fun F σ H S R r hf => tE.use r hf fun v H1 F1 S1 d x1 r1 h1 q => by
    obtain ⟨i, rfl, q1⟩ := onI.get q
    exact ⟨i, h1, F1, S1, _, x1, r1, rfl, q1⟩
end
@[reducible] def on3 (k : D → D → D → Prop) : List D → Prop
  | [d, e, f] => k d e f
  | _ => False
theorem on3.get {k : D → D → D → Prop} : ∀ {l : List D}, on3 k l → ∃ d e f, l = [d, e, f] ∧ k d e f
  | [d, e, f], h => ⟨d, e, f, rfl, h⟩
  | [], h => h.elim
  | [_], h => h.elim
  | [_, _], h => h.elim
  | _ :: _ :: _ :: _ :: _, h => h.elim
def mx (i j : Int) : Int := if i < j then j else i
def gMax3 : GN := fun ds k => on3 (fun d e f => onI (fun i => onI (fun j => onI (fun l => k (.int (mx (mx i j) l))) f) e) d) ds
section
variable {X : Cx} {z : Z}
theorem nuMax2_int {i j : Int} : nuMax2 (.int i) (.int j) = some (.int (mx i j)) := by
  show (some (decide (i < j))).map _ = _
  unfold mx
  by_cases h : i < j
  · simp [h]
  · simp [h]
theorem cd_max3 (hc : X.calm = true) : CallD X z (.builtin "max") gMax3 := ⟨⟨_, call_max3Nu hc, fun {F σ H S vs ds R} r rv q => by
  obtain ⟨d, e, f, rfl, q0⟩ := on3.get q
  obtain ⟨v, rr, rfl, w1, rv⟩ := rv
  obtain ⟨w, u, rfl, w2, w3⟩ := rv.two
  obtain ⟨i, rfl, q1⟩ := onI.get q0
  obtain ⟨j, rfl, q2⟩ := onI.get q1
  obtain ⟨l, rfl, q3⟩ := onI.get q2
  rw [show v = .int i from w1, show w = .int j from w2, show u = .int l from w3]
  refine ⟨.int i, .int j, .int l, .int (mx (mx i j) l), rfl, ?_, F, S, _, Ext.refl, r, rfl, q3⟩
  unfold nuMax3
  rw [nuMax2_int]
  exact nuMax2_int⟩⟩
theorem js_augI {i : Nat} {x : Str} {op : Operator} {f : Int → Int → Int} {fe : DE} {e : Expr} {pos pos' : Pos} (ho : PIp X op (ipI f)) (hN : X.N.Nodup) (hi : X.N[i]? = some x) (hx : Loc X.env.scope x) (p : z.pr i = none) (he : JE X z e fe)
    (hf : X.fn x = true ∨ X.env.scope.names.lookup x = some .local := by first | exact .inl rfl | exact .inr rfl | assumption) : JS X z (.AugAssign (.Name x pos') op e pos) (dAug i (gI0 fun a b => .int (f a b)) fe) :=
  js_aug hN hi hx p he ho (fun {F σ H S v w d e' k} r hd he' q => by
    obtain ⟨a, rfl, q1⟩ := onI.get q
    obtain ⟨b, rfl, q2⟩ := onI.get q1
    exact ⟨a, b, hd, he', _, rfl, rfl, q2⟩) (fun v w H Q Q' k ⟨i, j, a, b, q⟩ => ⟨i, j, a, b, k _ _ q⟩) hf
end
end DL

namespace DL
open PySem L2 PySem.Spec PyProof.Rows
noncomputable def memD (d : D) (l : List D) : Bool := @decide (d ∈ l) (Classical.propDecidable _)
theorem memD_iff {d : D} {l : List D} : memD d l = true ↔ d ∈ l := by
  unfold memD; exact @decide_eq_true_iff _ (Classical.propDecidable _)
theorem memD_ff {d : D} {l : List D} (h : d ∉ l) : memD d l = false := by
  cases w : memD d l with
  | false => rfl
  | true => exact absurd (memD_iff.mp w) h
theorem memD_int {i : Int} {ns : List Int} : memD (.int i) (ns.map D.int) = decide (i ∈ ns) := by
  by_cases h : i ∈ ns
  · rw [decide_eq_true h, memD_iff.mpr (List.mem_map.mpr ⟨i, h, rfl⟩)]
  · rw [decide_eq_false h, memD_ff]
    intro q
    obtain ⟨j, hj, e⟩ := List.mem_map.mp q
    cases e
    exact h hj
theorem any_eqv {d : D} {m : Nat} (h : eqOk m d) : ∀ {l : List D}, (∀ x ∈ l, eqOk 19 x) → ((toPs l).any fun z => PyData.eqv z (toP d)) = memD d l
  | [], _ => (memD_ff (by simp)).symm
  | x :: r, hl => by
    have e1 := eqv_is (hl x (by simp)) h
    have e2 := any_eqv h (l := r) fun y hy => hl y (by simp [hy])
    rw [toPs, List.any_cons, e1, e2]
    by_cases q : x = d
    · subst q
      rw [deq_iff.mpr rfl, memD_iff.mpr (List.mem_cons_self : x ∈ x :: r)]; rfl
    · rw [deq_ff q, Bool.false_or]
      by_cases w : d ∈ r
      · rw [memD_iff.mpr w, memD_iff.mpr (List.mem_cons_of_mem x w)]
      · rw [memD_ff w, memD_ff]
        intro w'
        rcases List.mem_cons.mp w' with e | e
        · exact q e.symm
        · exact w e
def gIn : G2 := fun d e k => match e with
  | .lst l => eqOk 20 d ∧ (∀ x ∈ l, eqOk 19 x) ∧ k (.bl (memD d l))
  | _ => False
def gNotIn : G2 := fun d e k => match e with
  | .lst l => eqOk 20 d ∧ (∀ x ∈ l, eqOk 19 x) ∧ k (.bl (!memD d l))
  | _ => False
section
variable {X : Cx} {z : Z}
theorem bd_in (hz : z.n.K = X.K) (hu : X.A.units + 65 < cLine) : BinD X z (compareOp .In) gIn :=
  ⟨⟨_, op_inD hu, fun x y H Q Q' k ⟨d, ds, h1, h2, h3, h4, q⟩ => ⟨d, ds, h1, h2, h3, h4, k _ _ q⟩, ⟨fun {F σ H S x y d e k} r r1 r2 q => by
    cases e with
    | lst l =>
      obtain ⟨c1, c2, q⟩ := q
      have c3 : eqOk 20 (.lst l) := eqOk_lst c2
      have h2 := dp_rv r.ext c3 r2
      refine ⟨toP d, toPs l, hz ▸ dp_rv r.ext c1 r1, hz ▸ (by simpa [toP] using h2), sh_of c1 (by decide), by simpa [toP] using sh_of c3 (by decide), F, _, Ext.refl, r, ?_, q⟩
      rw [any_eqv c1 c2]
    | _ => exact q.elim⟩⟩⟩
theorem bd_notIn (hz : z.n.K = X.K) (hu : X.A.units + 65 < cLine) : BinD X z (compareOp .NotIn) gNotIn :=
  ⟨⟨_, op_notInD hu, fun x y H Q Q' k ⟨d, ds, h1, h2, h3, h4, q⟩ => ⟨d, ds, h1, h2, h3, h4, k _ _ q⟩, ⟨fun {F σ H S x y d e k} r r1 r2 q => by
    cases e with
    | lst l =>
      obtain ⟨c1, c2, q⟩ := q
      have c3 : eqOk 20 (.lst l) := eqOk_lst c2
      have h2 := dp_rv r.ext c3 r2
      refine ⟨toP d, toPs l, hz ▸ dp_rv r.ext c1 r1, hz ▸ (by simpa [toP] using h2), sh_of c1 (by decide), by simpa [toP] using sh_of c3 (by decide), F, _, Ext.refl, r, ?_, q⟩
      rw [any_eqv c1 c2]
    | _ => exact q.elim⟩⟩⟩
theorem room65 {k : Nat} {A : Around} (r : Room k A) : A.units + 65 < cLine := by have := r.un; omega
end
end DL

namespace DL
open PySem L2 PySem.Spec PyProof.Rows PySem.SeqAt
theorem moved_eq {wr : List Addr} {s s' : Shared} (m : Moved wr (fun a b => b = a) s s') : s' = { s with heap := s'.heap, toks := s'.toks } := by
  obtain ⟨h1, h2, h3, h4, h5⟩ := m
  cases s'
  cases s
  cases h2
  cases h3
  cases h4
  rfl
def noHeap : Heap := { objs := #[] }
theorem noHeap_get {b : Addr} {o : Obj} (h : noHeap.get? b = some o) : False := by
  have := Heap.lt_size h
  exact absurd this (Nat.not_lt_zero _)
theorem max_dflt {prog : Program} {w : World} {A : Around} {E : Value → Shared → Prop} {s : Shared} {l : Addr} {its : List Value} {ns : List Int} {Q : Value → Shared → Prop} {d : Value} (hh : A.handled = none) (hl : s.heap.IsList l its.toArray) (hi : IntsAre its ns)
    (h0 : ns = [] → ∀ h' tk, (∀ b o, s.heap.get? b = some o → h'.get? b = some o) → Q d { s with heap := h', toks := tk })
    (h : ∀ h' tk M t', (∀ b o, s.heap.get? b = some o → h'.get? b = some o) → M ∈ ns → (∀ a, a ∈ ns → a ≤ M) → Q (.int M t') { s with heap := h', toks := tk }) : wpAny (model prog w) A (call (.builtin "max") [.ref l] [(Str.ofString "default", d)]) Q E s := by
  obtain ⟨xs, e⟩ := hi.allInts.items
  have hn : numsOf (intItems xs).toList = ns := by rw [← e]; exact hi.numsOf
  rw [nums_intItems] at hn
  subst hn
  rw [e] at hl
  refine call_max_walkD (iter_intList hl fun s₂ e st hfp hlI => ?_)
  subst e
  refine ⟨_, _, _, _, _, _, _, noHeap, fun i j => decide (numAt xs i > numAt xs j), rfl, (Walks.list (A := A.in1) hh _ l hlI (intItems xs)).toS, st, hfp, fun b o q => (noHeap_get q).elim, fun b o q => (noHeap_get q).elim, fun hz s' m => ?_, fun hp => ⟨fun i j vi vj s Q E _ hi hj q => CmpOf.ints_gt (numAt xs) (fun _ _ => intItems_at) i j vi vj s Q E hi hj q, fun v s' hP m => ?_⟩⟩
  · rw [moved_eq m]
    refine h0 ?_ _ _ (old_kept m.heap)
    have : xs.size = 0 := by simpa [intItems] using hz
    have : xs.toList = [] := List.eq_nil_of_length_eq_zero (by simpa using this)
    rw [this]; rfl
  · rw [moved_eq m]
    obtain ⟨t, rfl⟩ := intItems_at hP
    have hs : (intItems xs).size = xs.size := by simp [intItems]
    have hp' : 0 < xs.size := by rw [← hs]; exact hp
    obtain ⟨h1, h2⟩ := argBest_gt (numAt xs) (xs.size - 1)
    rw [hs]
    refine h _ _ _ t (old_kept m.heap) ?_ fun a ha => ?_
    · rw [numAt_eq]; exact PySem.getD_mem (by rw [List.length_map, Array.length_toList]; omega)
    · obtain ⟨j, hj, rfl⟩ := mem_getD ha
      rw [List.length_map, Array.length_toList] at hj
      rw [← numAt_eq]; exact h2 j (by omega)
def tMaxD (K : PySem.W.Frag) (t tk : TA) : TE := fun σ H Q => t σ H fun vs H1 => tk σ H1 fun zs H2 => ∃ (a : Addr) (ns : List Int) (d : Int), vs = [V.ref a] ∧ zs = [V.int d] ∧ SqL K H2 a (ns.map V.int) ∧ (ns = [] → Q (.int d) H2) ∧ ∀ m, m ∈ ns → (∀ y, y ∈ ns → y ≤ m) → Q (.int m) H2
section
variable {X : Cx} {x : Str} {p pos : Pos} {e : Expr} {es : List Expr} {kws : List Keyword} {t tk : TA}
theorem pe_maxD (hc : X.calm = true) (hg : Gl X x) (hm : X.mg x = none) (hv : bootBuiltins x = some (.builtin "max")) (ha : PA X (e :: es) t) (hkw : PK X kws tk) (hks : (backToKw pos (keywordEach kws X.env)).filterMap (·.1) = [Str.ofString "default"] := by rfl)
    (hn : x ≠ "__name__" := by decide) (hdb : (x == ("__debug__" : Str)) = false := by decide)
    (he : backTo pos (starEach (e :: es) X.env) = (false, eval e X.env) :: backTo pos (starEach es X.env) := by rfl)
    (hpl : (backTo pos (starEach (e :: es) X.env)).any (·.1) = false := by rfl)
    (hall : (backToKw pos (keywordEach kws X.env)).all (·.1.isSome) = true := by rfl)
    (hk : (backToKw pos (keywordEach kws X.env)).any (·.1.isNone) = false := by rfl) : PE X (.Call (.Name x p) (e :: es) kws pos) (tMaxD X.K t tk) := by
  refine ⟨fun pins s σ H Q I h => ?_⟩
  refine wpAny_Call_Name_kw (ld_blt I hg hm hv ?_ hn hdb)
  refine PyProof.Rows.callWith_kw (thn (ha.run pos pins s σ H _ I h) fun us s1 ⟨vs, H1, I1, r, q⟩ => ?_) he hpl hall hk
  refine thn (hkw.run pos pins s1 σ H1 _ I1 q) fun ws s2 ⟨zs, H2, I2, rz, q2⟩ => ?_
  obtain ⟨a, ns, d, rfl, rfl, hs, q0, q1⟩ := q2
  rw [hks]
  obtain ⟨its, rv, hl, _⟩ := I2.list hs
  rw [Vals.ref1 r]
  cases rz with
  | cons rw_ rest =>
    cases rest
    obtain ⟨td, rfl⟩ := rw_
    exact max_dflt (I2.ok.hd hc) hl.isList rv.ints (fun e0 h' tk hk => ⟨.int _, H2, I2.kept hk, ⟨_, rfl⟩, q0 e0⟩) fun h' tk m t' hk h1 h2 => ⟨.int _, H2, I2.kept hk, ⟨_, rfl⟩, q1 m h1 h2⟩
end
def dMaxD (fa : DA) (fk : DV) : DE := fun S R => fa S fun as S1 => fk S1 fun ks S2 => views S2 as fun ds => on1 (onLS fun l => onInts (fun ns => on1 (onI fun d => (ns = [] → R (.int d) S2) ∧ ∀ m, m ∈ ns → (∀ y, y ∈ ns → y ≤ m) → R (.int m) S2) ks) l) ds
section
variable {X : Cx} {z : Z} {x : Str} {p pos : Pos} {e : Expr} {es : List Expr} {kws : List Keyword} {fa : DA} {fk : DV}
theorem je_maxD (hz : z.n.K = X.K) (hc : X.calm = true) (hg : Gl X x) (hm : X.mg x = none) (hv : bootBuiltins x = some (.builtin "max")) (ha : JA X z (e :: es) fa) (hkw : JK X z kws fk) (hks : (backToKw pos (keywordEach kws X.env)).filterMap (·.1) = [Str.ofString "default"] := by rfl)
    (hn : x ≠ "__name__" := by decide) (hdb : (x == ("__debug__" : Str)) = false := by decide)
    (he : backTo pos (starEach (e :: es) X.env) = (false, eval e X.env) :: backTo pos (starEach es X.env) := by rfl)
    (hpl : (backTo pos (starEach (e :: es) X.env)).any (·.1) = false := by rfl)
    (hall : (backToKw pos (keywordEach kws X.env)).all (·.1.isSome) = true := by rfl)
    (hk : (backToKw pos (keywordEach kws X.env)).any (·.1.isNone) = false := by rfl) : JE X z (.Call (.Name x p) (e :: es) kws pos) (dMaxD fa fk) :=
  JE.of (pe_maxD hc hg hm hv ha hkw hks hn hdb he hpl hall hk) fun F σ H S R r hf => tA.use r hf fun vs H1 F1 S1 as x1 r1 h1 q => tV.use r1 q fun zs H2 F2 S2 ds x2 r2 h2 q2 => by
    obtain ⟨dl, rv, q3⟩ := (AOks.mono x2 h1).views r2 q2
    obtain ⟨d0, rfl, q4⟩ := on1.get q3
    obtain ⟨v, rfl, w1⟩ := rv.one
    obtain ⟨l, hd, q5⟩ := onLS.get q4
    obtain ⟨ns, rfl, q6⟩ := onInts.get q5
    obtain ⟨a, xs, rfl, g1, s1⟩ := w1.list r2.ext hd
    rw [s1.ints] at g1
    obtain ⟨dd, rfl, q7⟩ := on1.get q6
    obtain ⟨k, rfl, q8, q9⟩ := onI.get q7
    obtain ⟨u, ur, rfl, u1, u2⟩ := h2
    rw [show ur = [] from u2]
    rw [show u = .int k from u1]
    exact ⟨a, ns, k, rfl, rfl, hz ▸ g1, fun e0 => ⟨F2, S2, _, x1.trans x2, r2, rfl, q8 e0⟩, fun m m1 m2 => ⟨F2, S2, _, x1.trans x2, r2, rfl, q9 m m1 m2⟩⟩
end
def rngC (lo c : Int) (n : Nat) : List D := (List.range n).map fun i => .int (lo + (i : Nat) * c)
theorem rngC_succ {lo c : Int} {k : Nat} : rngC lo c (k + 1) = .int lo :: rngC (lo + c) c k := by
  unfold rngC
  rw [List.range_succ_eq_map, List.map_cons, List.map_map]
  congr 1
  · congr 1; omega
  · apply List.map_congr_left
    intro i _
    show D.int _ = D.int _
    congr 1
    simp only [Function.comp, Nat.succ_eq_add_one]
    rw [Int.natCast_add, Int.add_mul]; omega
theorem itc_ok {n : Nm} {F : Hp} {lo c : Int} {m : Nat} : ItOk n (Itc lo c m) F (rngC lo c m) where
  go := fun F1 H1 i x1 x2 hi => by
    have : i < m := by simpa [rngC] using hi
    exact this
  yld := fun F1 H1 i v H2 x1 x2 ⟨e, q⟩ hi => by
    subst e
    have hi' : i < m := by simpa [rngC] using hi
    refine ⟨.int (lo + (i : Nat) * c), F1, ?_, Ext.refl, x2, fun a o h => .inl ⟨o, h⟩, fun a o h => h, q⟩
    simp [rngC, hi']
  stop := fun F1 H1 i x1 x2 hi => by
    have : m ≤ i := by simpa [rngC] using hi
    exact this
def wA3 (f g h : DE) : DI := fun S R => f S fun d S1 => g S1 fun e S2 => h S2 fun c S3 => onI (fun i => onI (fun j => onI (fun c => RgC i j c (Builtin.Range.rangeSize i j c).toNat ∧ R (rngC i c (Builtin.Range.rangeSize i j c).toNat) S3) c) e) d
section
variable {X : Cx} {z : Z} {tg e a b c : Expr}
theorem ji_rangeA3 {p pos : Pos} {f g h : DE} (hg : Gl X "range") (hm : X.mg "range" = none) (ha : JE X z a f) (hb : JE X z b g) (hc : JE X z c h)
    (hs : starEach [a, b, c] X.env = (false, eval a X.env) :: starEach [b, c] X.env := by rfl) (hs1 : starEach [b, c] X.env = (false, eval b X.env) :: starEach [c] X.env := by rfl) (hs2 : starEach [c] X.env = [(false, eval c X.env)] := by rfl)
    (hpl : (backTo pos (starEach [b, c] X.env)).any (·.1) = false := by rfl) : JI X z tg (.Call (.Name "range" p) [a, b, c] [] pos) (wA3 f g h) :=
  JI.of (pi_range3 hg hm (pa_cons ha (pa_cons hb (pa_cons hc pa_nil hs2) hs1) hs) hs hpl) fun F σ H S Rw r hf => tE.use r hf fun v H1 F1 S1 d x1 r1 h1 q => tE.use r1 q fun w H2 F2 S2 d2 x2 r2 h2 q2 => tE.use r2 q2 fun u H3 F3 S3 d3 x3 r3 h3 q3 => by
    obtain ⟨i, rfl, q4⟩ := onI.get q3
    obtain ⟨j, rfl, q5⟩ := onI.get q4
    obtain ⟨k, rfl, q6, q7⟩ := onI.get q5
    exact ⟨i, j, k, _, by rw [show v = .int i from h1, show w = .int j from h2, show u = .int k from h3], q6, F3, S3, _, (x1.trans x2).trans x3, r3, itc_ok, q7⟩
end
end DL

namespace DL
open PySem L2 PySem.Spec PyProof.Rows PySem.SeqAt
def lookK (l : List (Key × D)) (k : Key) : Option D := (l.find? fun p => decide (p.1 = k)).map (·.2)
def putD (l : List (Key × D)) (k : Key) (d : D) : List (Key × D) :=
  if l.any (fun p => decide (p.1 = k)) = true then l.map (fun p => if p.1 = k then (p.1, d) else p) else l ++ [(k, d)]
theorem lookK_nil {k : Key} : lookK [] k = none := rfl
theorem lookK_cons {j k : Key} {d : D} {l : List (Key × D)} : lookK ((j, d) :: l) k = if j = k then some d else lookK l k := by
  unfold lookK
  by_cases h : j = k <;> simp [List.find?_cons, h]
theorem lookK_any {k : Key} : ∀ {l : List (Key × D)}, l.any (fun p => decide (p.1 = k)) = (lookK l k).isSome
  | [] => rfl
  | (j, d) :: l => by
    rw [List.any_cons, lookK_cons, lookK_any (l := l)]
    by_cases h : j = k <;> simp [h]
theorem lookK_map {k j : Key} {d : D} : ∀ {l : List (Key × D)}, lookK (l.map fun p => if p.1 = k then (p.1, d) else p) j = if j = k then (lookK l j).map (fun _ => d) else lookK l j
  | [] => by simp [lookK_nil]
  | (i, e) :: l => by
    rw [List.map_cons]
    by_cases h : i = k
    · subst h
      rw [if_pos rfl, lookK_cons, lookK_cons, lookK_map (l := l)]
      by_cases q : j = i
      · subst q; simp
      · have q' : ¬ i = j := fun e => q e.symm
        simp [q, q']
    · rw [if_neg h, lookK_cons, lookK_cons, lookK_map (l := l)]
      by_cases q : j = k
      · subst q; simp [h]
      · simp [q]
theorem lookK_snoc {k j : Key} {d : D} : ∀ {l : List (Key × D)}, lookK (l ++ [(k, d)]) j = match lookK l j with | some e => some e | none => if j = k then some d else none
  | [] => by
    rw [List.nil_append, lookK_cons, lookK_nil]
    by_cases q : k = j
    · subst q; simp
    · have q' : ¬ j = k := fun e => q e.symm
      simp [q, q']
  | (i, e) :: l => by
    rw [List.cons_append, lookK_cons, lookK_cons, lookK_snoc (l := l)]
    by_cases q : i = j <;> simp [q]
theorem lookK_put {l : List (Key × D)} {k j : Key} {d : D} : lookK (putD l k d) j = if j = k then some d else lookK l j := by
  unfold putD
  rw [lookK_any]
  by_cases h : (lookK l k).isSome = true
  · rw [if_pos h, lookK_map]
    by_cases q : j = k
    · subst q
      obtain ⟨e, he⟩ := Option.isSome_iff_exists.mp h
      simp [he]
    · simp [q]
  · rw [if_neg h, lookK_snoc]
    have h' : lookK l k = none := by
      cases e : lookK l k with
      | none => rfl
      | some x => rw [e] at h; exact (h rfl).elim
    by_cases q : j = k
    · subst q; simp [h']
    · simp only [if_neg q]
      cases lookK l j <;> rfl
theorem putD_len {l : List (Key × D)} {k : Key} {d : D} : (putD l k d).length ≤ l.length + 1 := by
  unfold putD
  split <;> simp
theorem RpK.look {n : Nm} {F : Hp} {k : Key} : ∀ {l : List (Key × D)} {kvs : List (Key × V)}, RpK n F l kvs → (∀ d, lookK l k = some d → ∃ v, valV kvs k = some v ∧ Rp n F d v) ∧ (lookK l k = none → valV kvs k = none)
  | [], kvs, h => by
    rw [show kvs = [] from h]
    exact ⟨fun d e => (nomatch e), fun _ => rfl⟩
  | (j, d) :: l, kvs, ⟨v, r, e, h1, h2⟩ => by
    subst e
    have ih := RpK.look (k := k) h2
    rw [lookK_cons]
    by_cases q : j = k
    · rw [valV_pos (p := (j, v)) q, if_pos q]
      exact ⟨fun d' e => ⟨v, rfl, (by cases e; exact h1)⟩, fun e => (nomatch e)⟩
    · rw [valV_neg (p := (j, v)) q, if_neg q]
      exact ih
theorem RpK.put {n : Nm} {F : Hp} {k : Key} {d : D} {v : V} (hd : Rp n F d v) {l : List (Key × D)} {kvs : List (Key × V)} (h : RpK n F l kvs) : RpK n F (putD l k d) (putK kvs k v) := by
  have e : l.any (fun p => decide (p.1 = k)) = kvs.any (fun p => decide (p.1 = k)) := by
    clear hd
    induction l generalizing kvs with
    | nil => rw [show kvs = [] from h]; rfl
    | cons p l ih =>
      obtain ⟨v', r, e, _, h2⟩ := h
      subst e
      rw [List.any_cons, List.any_cons, ih h2]
  unfold putD putK
  rw [e]
  split
  · clear e
    rename_i q
    clear q
    induction l generalizing kvs with
    | nil => rw [show kvs = [] from h]; rfl
    | cons p l ih =>
      obtain ⟨j, d'⟩ := p
      obtain ⟨v', r, e, h1, h2⟩ := h
      subst e
      rw [List.map_cons, List.map_cons]
      by_cases q : j = k
      · rw [if_pos q, if_pos q]; exact ⟨v, _, rfl, hd, ih h2⟩
      · rw [if_neg q, if_neg q]; exact ⟨v', _, rfl, h1, ih h2⟩
  · clear e
    rename_i q
    clear q
    induction l generalizing kvs with
    | nil => rw [show kvs = [] from h]; exact ⟨v, [], rfl, hd, rfl⟩
    | cons p l ih =>
      obtain ⟨j, d'⟩ := p
      obtain ⟨v', r, e, h1, h2⟩ := h
      subst e
      exact ⟨v', _, rfl, h1, ih h2⟩
theorem RpK.len {n : Nm} {F : Hp} : ∀ {l : List (Key × D)} {kvs : List (Key × V)}, RpK n F l kvs → kvs.length = l.length
  | [], kvs, h => by rw [show kvs = [] from h]; rfl
  | (j, d) :: l, kvs, ⟨v, r, e, _, h2⟩ => by subst e; simp [RpK.len h2]
/-- a key -/
@[reducible] def onKey (k : Key → Prop) : D → Prop
  | .int i => k (.inl i)
  | .str s => k (.inr s)
  | _ => False
theorem onKey.get {k : Key → Prop} {n : Nm} {F : Hp} : ∀ {d : D} {v : V}, onKey k d → Rp n F d v → ∃ j, v = kV j ∧ k j
  | .int i, v, h, r => ⟨.inl i, r, h⟩
  | .str s, v, h, r => ⟨.inr s, r, h⟩
  | .non, _, h, _ => h.elim
  | .bl _, _, h, _ => h.elim
  | .lst _, _, h, _ => h.elim
  | .tup _, _, h, _ => h.elim
  | .dK _, _, h, _ => h.elim
  | .dT _, _, h, _ => h.elim
  | .ins _ _, _, h, _ => h.elim
  | .scr _, _, h, _ => h.elim
  | .stt, _, h, _ => h.elim
@[reducible] def onDK (k : List (Key × D) → Prop) : D → Prop
  | .dK l => k l
  | _ => False
theorem onDK.get {k : List (Key × D) → Prop} : ∀ {d : D}, onDK k d → ∃ b, d = .dK b ∧ k b
  | .dK b, h => ⟨b, rfl, h⟩
  | .non, h => h.elim
  | .bl _, h => h.elim
  | .str _, h => h.elim
  | .tup _, h => h.elim
  | .int _, h => h.elim
  | .lst _, h => h.elim
  | .dT _, h => h.elim
  | .ins _ _, h => h.elim
  | .scr _, h => h.elim
  | .stt, h => h.elim
@[reducible] def onOwnK (k : List (Key × D) → Prop) : Slot → Prop
  | .own (.dK l) => k l
  | _ => False
theorem onOwnK.get {k : List (Key × D) → Prop} : ∀ {s : Slot}, onOwnK k s → ∃ l, s = .own (.dK l) ∧ k l
  | .own (.dK l), h => ⟨l, rfl, h⟩
  | .own (.lst _), h => h.elim
  | .own (.dT _), h => h.elim
  | .free, h => h.elim
  | .val _, h => h.elim
  | .slf _ _, h => h.elim
/-- {} -/
def fDNew : DF := fun S R => R (.dK []) S
/-- d[k] -/
def dDGet (fo : DO) (fe : DE) : DE := fun S R => fo S fun o S1 => fe S1 fun e S2 => view S2 (onDK fun l => onKey (fun k => onSome (fun d => R d S2) (lookK l k)) e) o
/-- d[k] = v -/
def dDPut (i : Nat) (fv fk : DE) : DS := fun E S => fv S fun d S1 => onOwnK (fun _ => fk S1 fun e S2 => onOwnK (fun l => onKey (fun k => l.length < sizeLine ∧ E.nx (setS S2 i (.own (.dK (putD l k d))))) e) (getS S2 i)) (getS S1 i)
section
variable {X : Cx} {z : Z} {o e value : Expr} {pos pos' : Pos}
theorem jf_dnew : JF X z (.Dict [] [] pos) fDNew := JF.of pe_dnewK fun F σ H S R r hf p hp => by
  obtain ⟨r2, fr⟩ := r.fresh (c := .dK []) (o := .dK []) hp ⟨[], upd_same, rfl⟩
  exact ⟨F, S, .dK [], p, rfl, Ext.refl, r2, fr, hf⟩
theorem je_dget {fo : DO} {fe : DE} (hu : X.A.units + 64 < cLine) (ho : JO X z o fo) (he : JE X z e fe) (hs : NoSl e) : JE X z (.Subscript o e pos) (dDGet fo fe) :=
  JE.of (pe_dget (by omega) ho he hs) fun F σ H S R r hf => tO.use r hf fun v H1 F1 S1 a1 x1 r1 h1 q1 => tE.use r1 q1 fun w H2 F2 S2 d2 x2 r2 h3 q3 => by
    obtain ⟨d, rv, q4⟩ := (h1.mono x2).view r2 q3
    obtain ⟨l, rfl, q5⟩ := onDK.get q4
    obtain ⟨c, kvs, rfl, h4, s2⟩ := rv
    obtain ⟨k, rfl, q6⟩ := onKey.get q5 h3
    obtain ⟨d', e', q7⟩ := onSome.get q6
    obtain ⟨v', hv', rv'⟩ := (s2.look (k := k)).1 d' e'
    exact ⟨c, v', rfl, hv' ▸ .inl ⟨_, _, h4, rfl, rfl⟩, F2, S2, d', x1.trans x2, r2, rv', q7⟩
theorem js_dput {i : Nat} {fv fk : DE} (hu : X.A.units + 64 < cLine) (ho : PE X o (tVar i)) (hk : JE X z e fk) (hv : JE X z value fv) (hs : swapsWith value (some (.Subscript o e pos')) pos.line X.env = pure false := by rfl) :
    JS X z (.Assign [.Subscript o e pos'] value pos) (dDPut i fv fk) :=
  JS.of (ps_dput (by omega) ho hk hv hs) fun F σ H S E r hf => tE.use r hf fun v H1 F1 S1 d1 x1 r1 h1 q1 => by
    obtain ⟨l0, g0, q2⟩ := onOwnK.get q1
    have g1 := getS_some g0 (by intro x; cases x)
    obtain ⟨a, e1, f1, n1, c1⟩ := r1.sl i _ g1
    refine ⟨.ref a, e1, tE.use r1 q2 fun w H2 F2 S2 d2 x2 r2 h2 q3 => ?_⟩
    obtain ⟨l, g2, q4⟩ := onOwnK.get q3
    obtain ⟨k, rfl, hl, q5⟩ := onKey.get q4 h2
    have g4 := getS_some g2 (by intro x; cases x)
    obtain ⟨a', e2, f2, n2, c2⟩ := r2.sl i _ g4
    rw [e1] at e2; cases e2
    obtain ⟨kvs, h4, s2⟩ := c2
    refine ⟨a, _, rfl, DPut.k h4 (by rw [s2.len]; exact hl), ?_⟩
    exact ⟨F2, _, x1.trans x2, r2.write (c' := .dK (putD l k d1)) g4 e1 ⟨_, upd_same, s2.put (h1.mono x2)⟩, q5⟩
end
end DL

namespace DL
open PySem L2 PySem.Spec PyProof.Rows PySem.SeqAt
def dDGet2 (fo : DO) (fe fx : DE) : DE := fun S R => fo S fun o S1 => view S1 (onDK fun _ => fe S1 fun e S2 => fx S2 fun x S3 => view S3 (onDK fun l => onKey (fun k => R ((lookK l k).getD x) S3) e) o) o
section
variable {X : Cx} {z : Z} {o e x : Expr} {apos cpos : Pos} {fo : DO} {fe fx : DE}
theorem je_dget2 (hu : X.A.units + 64 < cLine) (ho : JO X z o fo) (he : JE X z e fe) (hx : JE X z x fx) (hbase : attributeBase o "get" X.env (eval o X.env) = eval o X.env := by rfl)
    (hfew : ((backTo cpos (starEach [e, x] X.env)).all (fun x => !x.1) && (backToKw cpos (keywordEach [] X.env)).all (fun x => x.1.isSome)
      && decide (([e, x] : List Expr).length + ([] : List Keyword).length + (if ([] : List Keyword).isEmpty then 0 else 1) < 30)) = true := by rfl)
    (hline : (apos.endLine == cpos.line) = true := by rfl) (ht : backTo cpos (starEach [e, x] X.env) = [(false, eval e X.env), (false, eval x X.env)] := by rfl) :
    JE X z (.Call (.Attribute o "get" apos) [e, x] [] cpos) (dDGet2 fo fe fx) :=
  JE.of (pe_dget2 (by omega) ho he hx ⟨hbase, hfew, hline, ht⟩) fun F σ H S R r hf => tO.use r hf fun v H1 F1 S1 a1 x1 r1 h1 q1 => by
    obtain ⟨d, rv, q0⟩ := h1.view r1 q1
    obtain ⟨l0, rfl, q2⟩ := onDK.get q0
    obtain ⟨c, kvs0, rfl, h2, s1⟩ := rv
    refine ⟨c, rfl, .inl ⟨kvs0, h2⟩, tE.use r1 q2 fun w H2 F2 S2 d2 x2 r2 h3 q3 => tE.use r2 q3 fun u H3 F3 S3 d3 x3 r3 h4 q4 => ?_⟩
    obtain ⟨d, rv, q5⟩ := (h1.mono (x2.trans x3)).view r3 q4
    obtain ⟨l, rfl, q6⟩ := onDK.get q5
    obtain ⟨c', kvs, e1, h5, s2⟩ := rv
    cases e1
    obtain ⟨k, rfl, q7⟩ := onKey.get q6 (h3.mono x3)
    refine ⟨valV kvs k, (.inl ⟨_, _, h5, rfl, rfl⟩), F3, S3, (lookK l k).getD d3, (x1.trans x2).trans x3, r3, ?_, q7⟩
    cases e2 : lookK l k with
    | none => rw [(s2.look (k := k)).2 e2]; exact h4
    | some d' =>
      obtain ⟨v', hv, rv'⟩ := (s2.look (k := k)).1 d' e2
      rw [hv]; exact rv'
end
def mergeD (l : List (Key × D)) : List (Key × D) := l.foldl (fun acc p => putD acc p.1 p.2) []
theorem putD_new {l : List (Key × D)} {k : Key} {d : D} (h : lookK l k = none) : putD l k d = l ++ [(k, d)] := by
  unfold putD
  rw [lookK_any, h]; rfl
theorem lookK_none {l : List (Key × D)} {k : Key} : lookK l k = none ↔ k ∉ l.map (·.1) := by
  induction l with
  | nil => simp [lookK_nil]
  | cons p l ih =>
    obtain ⟨j, d⟩ := p
    rw [lookK_cons, List.map_cons, List.mem_cons]
    by_cases h : j = k
    · subst h; simp
    · rw [if_neg h, ih]
      have h' : ¬ k = j := fun e => h e.symm
      simp [h']
theorem mergeD_nodup {l : List (Key × D)} (h : (l.map (·.1)).Nodup) : mergeD l = l := by
  have gen : ∀ (m acc : List (Key × D)), ((acc ++ m).map (·.1)).Nodup → m.foldl (fun acc p => putD acc p.1 p.2) acc = acc ++ m := by
    intro m
    induction m with
    | nil => intro acc _; simp
    | cons p m ih =>
      intro acc hn
      have hp : lookK acc p.1 = none := by
        rw [lookK_none]
        intro hm
        rw [List.map_append, List.map_cons] at hn
        exact (List.nodup_append.mp hn).2.2 _ hm _ (List.mem_cons_self ..) rfl
      rw [List.foldl_cons, putD_new hp, ih _ (by simpa using hn)]
      simp
  have := gen l [] (by simpa using h)
  simpa [mergeD] using this
theorem RpK.merge {n : Nm} {F : Hp} {l : List (Key × D)} {kvs : List (Key × V)} (h : RpK n F l kvs) : RpK n F (mergeD l) (mergeK [] kvs) := by
  have gen : ∀ {m : List (Key × D)} {kvs : List (Key × V)} {acc : List (Key × D)} {ac : List (Key × V)}, RpK n F m kvs → RpK n F acc ac → RpK n F (m.foldl (fun acc p => putD acc p.1 p.2) acc) (mergeK ac kvs) := by
    intro m
    induction m with
    | nil => intro kvs acc ac h h'; rw [show kvs = [] from h]; exact h'
    | cons p m ih =>
      obtain ⟨j, d⟩ := p
      intro kvs acc ac h h'
      obtain ⟨v, r, e, h1, h2⟩ := h
      subst e
      exact ih (kvs := r) h2 (h'.put h1)
  exact gen h rfl
/-- a list of pairs -/
@[reducible] def onPairs (k : List (Key × D) → Prop) : List D → Prop
  | [] => k []
  | .tup [a, d] :: r => onKey (fun j => onPairs (fun t => k ((j, d) :: t)) r) a
  | _ => False
theorem onPairs.get {n : Nm} {F : Hp} : ∀ {l : List D} {k : List (Key × D) → Prop} {xs : List V}, onPairs k l → Rps n F l xs → ∃ ps kvs L, xs = ps.map V.ref ∧ Paired (fun p (kv : Key × V) => F p = some (.tup [kV kv.1, kv.2])) ps kvs ∧ RpK n F L kvs ∧ k L
  | [], k, xs, h, r => ⟨[], [], [], r, .nil, rfl, h⟩
  | .tup [a, d] :: l, k, xs, h, ⟨v, t, e, ⟨p, ys, ev, hp, rp⟩, r⟩ => by
    subst e; subst ev
    obtain ⟨va, ra, ey, h1, vd, rd, e2, h2, h3⟩ := rp
    subst ey; subst e2
    rw [show rd = [] from h3] at hp
    obtain ⟨j, rfl, h4⟩ := onKey.get (d := a) h h1
    obtain ⟨ps, kvs, L, e3, e4, e5, e6⟩ := onPairs.get h4 r
    subst e3
    exact ⟨p :: ps, (j, vd) :: kvs, (j, d) :: L, rfl, .cons hp e4, ⟨vd, kvs, rfl, h2, e5⟩, e6⟩
  | .non :: _, _, _, h, _ => h.elim
  | .bl _ :: _, _, _, h, _ => h.elim
  | .int _ :: _, _, _, h, _ => h.elim
  | .str _ :: _, _, _, h, _ => h.elim
  | .lst _ :: _, _, _, h, _ => h.elim
  | .dK _ :: _, _, _, h, _ => h.elim
  | .dT _ :: _, _, _, h, _ => h.elim
  | .ins _ _ :: _, _, _, h, _ => h.elim
  | .scr _ :: _, _, _, h, _ => h.elim
  | .stt :: _, _, _, h, _ => h.elim
  | .tup [] :: _, _, _, h, _ => h.elim
  | .tup [_] :: _, _, _, h, _ => h.elim
  | .tup (_ :: _ :: _ :: _) :: _, _, _, h, _ => h.elim
def fDict (fo : DO) : DF := fun S R => fo S fun o S1 => view S1 (onL fun l => onPairs (fun L => R (.dK (mergeD L)) S1) l) o
section
variable {X : Cx} {z : Z} {a : Expr} {p pos : Pos} {fo : DO}
theorem jf_dict (hz : z.n.K = X.K) (hc : X.calm = true) (hg : Gl X "dict") (hm : X.mg "dict" = none) (ha : JO X z a fo) (hv : bootBuiltins "dict" = some (.type "dict") := by decide +kernel)
    (he : starEach [a] X.env = (false, eval a X.env) :: starEach [] X.env := by rfl) (hpl : (backTo pos (starEach [] X.env)).any (·.1) = false := by rfl) : JF X z (.Call (.Name "dict" p) [a] [] pos) (fDict fo) :=
  JF.of (pe_callTy (call_dictP hc) hg hm hv (pa_cons ha pa_nil he) (he := he) (hpl := hpl)) fun F σ H S R r hf => tO.use r hf fun v H1 F1 S1 a1 x1 r1 h1 q1 => by
    obtain ⟨d, rv, q0⟩ := h1.view r1 q1
    obtain ⟨l, rfl, q2⟩ := onL.get q0
    obtain ⟨c, xs, rfl, h2, s1⟩ := rv
    obtain ⟨ps, kvs, L, rfl, e4, e5, e6⟩ := onPairs.get q2 s1
    refine ⟨c, ps, kvs, rfl, SqL.of h2, Paired.mapP e4 fun u w hu => SqT.of (r1.ext.at hu rfl), fun t ht => ?_⟩
    obtain ⟨r4, fr⟩ := r1.fresh (c := .dK (mergeD L)) (o := .dK (mergeK [] kvs)) ht ⟨_, upd_same, e5.merge⟩
    exact ⟨F1, S1, _, t, rfl, x1, r4, fr, e6⟩
end
theorem paired_mem {α β : Type} {F G : α → β → Prop} : ∀ {xs : List α} {ys : List β}, Paired F xs ys → (∀ a b, a ∈ xs → F a b → G a b) → Paired G xs ys
  | _, _, .nil, _ => .nil
  | _, _, .cons r t, f => .cons (f _ _ (List.mem_cons_self ..) r) (paired_mem t fun a b h => f a b (List.mem_cons_of_mem _ h))
def keyD : Key → D
  | .inl i => .int i
  | .inr s => .str s
theorem keyD_rp {n : Nm} {F : Hp} {k : Key} : Rp n F (keyD k) (kV k) := by cases k <;> rfl
def itemsD (l : List (Key × D)) : List D := l.map fun p => .tup [keyD p.1, p.2]
def fItems (fo : DO) : DF := fun S R => fo S fun o S1 => view S1 (onDK fun l => R (.lst (itemsD l)) S1) o
theorem items_rps {n : Nm} {F F' : Hp} (x : Ext n F F') : ∀ {ts : List Addr} {kvs : List (Key × V)} {l : List (Key × D)}, Paired (fun (t : Addr) (q : Key × V) => F' t = some (.tup [kV q.1, q.2])) ts kvs → RpK n F l kvs → Rps n F' (itemsD l) (ts.map V.ref)
  | _, _, [], .nil, h => rfl
  | _, _, [], .cons _ _, h => by cases (show (_ :: _ : List (Key × V)) = [] from h)
  | t :: ts, q :: kvs, (j, d) :: l, .cons h1 h2, h => by
    obtain ⟨v, r, e, h3, h4⟩ := h
    cases e
    exact ⟨.ref t, ts.map V.ref, rfl, ⟨t, _, rfl, h1, _, _, rfl, keyD_rp, _, _, rfl, h3.mono x, rfl⟩, items_rps x h2 h4⟩
  | _, _, (j, d) :: l, .nil, h => by
    obtain ⟨v, r, e, _⟩ := h
    cases e
section
variable {X : Cx} {z : Z} {a : Expr} {p apos cpos pos : Pos} {fo : DO}
/-- list(d.items()) of a dict, locked or not -/
def tLItems (te : TE) : TE := fun σ H Q => te σ H fun x H1 => ∃ (d : Addr) (kvs : List (Key × V)), x = .ref d ∧ Rd H1 d (.dK kvs) ∧
  ∀ (H' : Hp) (p : Addr) (ts : List Addr), (∀ b o, H1 b = some o → H' b = some o) → H1 p = none → (∀ t ∈ ts, H1 t = none) → p ∉ ts → H' p = some (.lst (ts.map V.ref)) → Paired (fun (t : Addr) (q : Key × V) => H' t = some (.tup [kV q.1, q.2])) ts kvs → Q (.ref p) H'
theorem pe_lItems {te : TE} (hc : X.calm = true) (he : PE X a te) (hg : Gl X "list") (hm : X.mg "list" = none) (hv : bootBuiltins "list" = some (.type "list")) (hbase : attributeBase a "items" X.env (eval a X.env) = eval a X.env) (hline : (apos.endLine == cpos.line) = true)
    (hs : starEach [.Call (.Attribute a "items" apos) [] [] cpos] X.env = (false, eval (.Call (.Attribute a "items" apos) [] [] cpos) X.env) :: starEach [] X.env) :
    PE X (.Call (.Name "list" p) [.Call (.Attribute a "items" apos) [] [] cpos] [] pos) (tLItems te) := by
  refine ⟨fun pins s σ H Q I hq => wpAny_Call_Name_kw (ld_blt I hg hm hv (PyProof.Rows.callWith_type1 ?_ hs rfl))⟩
  rw [hs]
  refine Calls.spliced_cons (wpAny_Call_method (T := "dict") (id := "dict.items") hbase rfl hline F.plainAttrs_dict F.slot_dict_items F.type_dict_items (thn (he.run pins s σ H _ I hq) ?_))
  rintro u s1 ⟨x, H1, I1, rx, d, kvs, rfl, hd, q⟩
  cases (show u = Value.ref d from rx)
  obtain ⟨hz, hs0, vs, kv, hdo⟩ := dk_rd I1.hok hd
  obtain ⟨ep, hat⟩ := hdo.dictAt
  have lk : kvs.length = vs.length := Paired.length kv
  refine ⟨hdo.typeIs, hdo.mapOf.noDict, ?_⟩
  refine method_meetsIn F.slot_dict_items F.entry_dict_items rfl (PySem.evalArgs_none ⟨rfl, hdo.typeIs, F.args_dict_items_1 _, _, meets_dict_items (mixKind X.prog X.w) d hs0, ⟨vs, hdo⟩, Calls.spliced_nil ?_⟩)
  refine PySem.W.kdx_call (knd := mixKind X.prog X.w) (kvs := vs) (ep := ep) (I1.ok.hd hc) ⟨_, Heap.get?_push_size _ rfl, rfl, rfl⟩ (hat.push _) (by omega) fun h' tk acc c as hk hS hl hG hacc => ?_
  have I2 : Inv X pins σ H1 { s1 with heap := s1.heap.push { cls := .type "dict_items", data := .fields #[.ref d] } } := I1.kept (t' := s1.toks) fun b ob q => Heap.get?_push_of_some _ q
  obtain ⟨H', k1, k2, k3, k4, k5, k6, J⟩ := LiI.items_laid (tk := tk) I2 hz kv hk hS hl hG hacc
  exact ⟨.ref _, H', J, rfl, q H' _ as k1 k2 k3 k4 k5 k6⟩
theorem jf_items (hc : X.calm = true) (hg : Gl X "list") (hm : X.mg "list" = none) (ha : JO X z a fo) (hv : bootBuiltins "list" = some (.type "list") := by decide +kernel)
    (hbase : attributeBase a "items" X.env (eval a X.env) = eval a X.env := by rfl) (hline : (apos.endLine == cpos.line) = true := by rfl)
    (hs : starEach [.Call (.Attribute a "items" apos) [] [] cpos] X.env = (false, eval (.Call (.Attribute a "items" apos) [] [] cpos) X.env) :: starEach [] X.env := by rfl) :
    JF X z (.Call (.Name "list" p) [.Call (.Attribute a "items" apos) [] [] cpos] [] pos) (fItems fo) :=
  JF.of (pe_lItems hc ha hg hm hv hbase hline hs) fun F σ H S R r hf => tO.use r hf fun v H1 F1 S1 a1 x1 r1 h1 q1 => by
    obtain ⟨d, rv, q0⟩ := h1.view r1 q1
    obtain ⟨l, rfl, q2⟩ := onDK.get q0
    obtain ⟨c, kvs, rfl, h2, s1⟩ := rv
    refine ⟨c, kvs, rfl, h2, fun H' q ts k1 k2 k3 k4 k5 k6 => ?_⟩
    classical
    let F2 : Hp := fun b => if b ∈ ts then H' b else F1 b
    have f1 : ∀ t ∈ ts, F1 t = none := fun t ht => r1.ext.free (k3 t ht)
    have x2 : Ext z.n F1 F2 := Ext.of fun b u e => by
      show (if b ∈ ts then H' b else F1 b) = some u
      rw [if_neg (fun w => by rw [f1 b w] at e; cases e)]; exact e
    have x3 : Ext z.n F2 H' := fun b u e => by
      have e : (if b ∈ ts then H' b else F1 b) = some u := e
      by_cases w : b ∈ ts
      · rw [if_pos w] at e; exact ⟨u, e, .refl u⟩
      · rw [if_neg w] at e
        obtain ⟨u', e', l'⟩ := r1.ext b u e
        exact ⟨u', k1 _ _ e', l'⟩
    have r2 : Rep z F2 σ H' S1 := r1.grow x2 (fun b u e => by
      have e : (if b ∈ ts then H' b else F1 b) = some u := e
      by_cases w : b ∈ ts
      · exact .inr (.inl (k3 b w))
      · rw [if_neg w] at e; exact .inl ⟨u, e⟩) k1 x3
    have hr : Rps z.n F2 (itemsD l) (ts.map V.ref) := items_rps x2 (paired_mem k6 fun t u ht hu => by
      show (if t ∈ ts then H' t else F1 t) = _
      rw [if_pos ht]; exact hu) s1
    refine ⟨F2, S1, .lst (itemsD l), q, rfl, x1.trans x2, r2, ⟨?_, r1.old k2, ⟨_, k5, hr⟩, fun i c' hs e => ?_⟩, q2⟩
    · show (if q ∈ ts then H' q else F1 q) = none
      rw [if_neg k4]; exact r1.ext.free k2
    · obtain ⟨b, e1, _, _, c1⟩ := r1.sl i _ hs
      rw [e] at e1; cases e1
      obtain ⟨o', ho, _⟩ := c1.ex
      rw [k2] at ho; cases ho
end
def pairI (d : D) (i j : Int) : Prop := d = .tup [.int i, .int j]
def leP (d e : D) : Prop := ∀ i j i' j', d = .tup [.int i, .int j] → e = .tup [.int i', .int j'] → i < i' ∨ (i = i' ∧ j ≤ j')
def gSortP : GN := fun ds k => on1 (onLS fun l => (∀ d ∈ l, ∃ i j, d = .tup [.int i, .int j]) ∧ ∀ l' : List D, l'.Perm l → l'.Pairwise leP → k (.lst l')) ds
theorem Rps.perm {n : Nm} {F : Hp} {xs ys : List V} (h : ys.Perm xs) : ∀ {l : List D}, Rps n F l xs → ∃ l', l'.Perm l ∧ Rps n F l' ys := by
  induction h with
  | nil => intro l r; exact ⟨l, .refl _, r⟩
  | cons x h ih =>
    intro l r
    rcases l with _ | ⟨d, l⟩
    · cases (show (_ :: _ : List V) = [] from r)
    · obtain ⟨v, t, e, h1, h2⟩ := r
      cases e
      obtain ⟨l', p, q⟩ := ih h2
      exact ⟨d :: l', p.cons d, _, _, rfl, h1, q⟩
  | swap x y h =>
    intro l r
    rcases l with _ | ⟨d, _ | ⟨e, l⟩⟩
    · cases (show (_ :: _ : List V) = [] from r)
    · obtain ⟨v, t, e, h1, h2⟩ := r
      cases e
      cases (show (_ :: _ : List V) = [] from h2)
    · obtain ⟨v, t, e1, h1, v2, t2, e2, h2, h3⟩ := r
      cases e1; cases e2
      exact ⟨e :: d :: l, List.Perm.swap d e l, _, _, rfl, h2, _, _, rfl, h1, h3⟩
  | trans _ _ ih1 ih2 =>
    intro l r
    obtain ⟨l1, p1, q1⟩ := ih2 r
    obtain ⟨l2, p2, q2⟩ := ih1 q1
    exact ⟨l2, p2.trans p1, q2⟩
theorem Rps.pairs {n : Nm} {F : Hp} {P : V → V → Prop} {Q : D → D → Prop} (h : ∀ d e x y, Rp n F d x → Rp n F e y → P x y → Q d e) : ∀ {l : List D} {xs : List V}, Rps n F l xs → xs.Pairwise P → l.Pairwise Q
  | [], _, _, _ => .nil
  | d :: l, xs, ⟨v, t, e, h1, h2⟩, hp => by
    subst e
    obtain ⟨p1, p2⟩ := List.pairwise_cons.mp hp
    refine List.pairwise_cons.mpr ⟨fun e he => ?_, Rps.pairs h h2 p2⟩
    have gen : ∀ {m : List D} {ys : List V}, Rps n F m ys → e ∈ m → ∃ y ∈ ys, Rp n F e y := by
      intro m
      induction m with
      | nil => intro ys _ w; cases w
      | cons a m ih =>
        intro ys r w
        obtain ⟨u, r', e1, g1, g2⟩ := r
        subst e1
        rcases List.mem_cons.mp w with rfl | w
        · exact ⟨u, List.mem_cons_self .., g1⟩
        · obtain ⟨y, hy, g3⟩ := ih g2 w
          exact ⟨y, List.mem_cons_of_mem _ hy, g3⟩
    obtain ⟨y, hy, g⟩ := gen h2 he
    exact h d e v y h1 g (p1 y hy)
/-- the two whole numbers of a pair -/
def pairOf (F : Hp) : V → Int × Int
  | .ref t => match F t with
    | some (.tup [.int i, .int j]) => (i, j)
    | _ => (0, 0)
  | _ => (0, 0)
theorem pairOf_rp {n : Nm} {F : Hp} {i j : Int} {x : V} (h : Rp n F (.tup [.int i, .int j]) x) : ∃ t, x = .ref t ∧ F t = some (.tup [.int i, .int j]) ∧ pairOf F x = (i, j) := by
  obtain ⟨t, xs, e, h1, v, r, e1, h2, v2, r2, e2, h3, h4⟩ := h
  subst e; subst e1; subst e2
  rw [show v = .int i from h2, show v2 = .int j from h3, show r2 = [] from h4] at h1
  exact ⟨t, rfl, h1, by simp only [pairOf, h1]⟩
section
variable {X : Cx} {z : Z}
theorem cd_sortP (hz : z.n.K = X.K) : CallD X z (.builtin "sorted") gSortP := ⟨⟨_, cr_sortedPO, fun {F σ H S vs ds R} r rv q => by
  obtain ⟨d, rfl, q0⟩ := on1.get q
  obtain ⟨v, rfl, w1⟩ := rv.one
  obtain ⟨l, hd, hp, q1⟩ := onLS.get q0
  obtain ⟨a, xs, rfl, h1, s1⟩ := w1.list r.ext hd
  have sx : ∀ x ∈ xs, ∃ t i j, x = V.ref t ∧ F t = some (.tup [.int i, .int j]) ∧ pairOf F x = (i, j) := by
    have gen : ∀ {m : List D} {ys : List V}, Rps z.n F m ys → (∀ d ∈ m, ∃ i j, d = .tup [.int i, .int j]) → ∀ x ∈ ys, ∃ t i j, x = V.ref t ∧ F t = some (.tup [.int i, .int j]) ∧ pairOf F x = (i, j) := by
      intro m
      induction m with
      | nil => intro ys r _ x hx; rw [show ys = [] from r] at hx; cases hx
      | cons a m ih =>
        intro ys r hm x hx
        obtain ⟨u, r', e1, g1, g2⟩ := r
        subst e1
        rcases List.mem_cons.mp hx with rfl | hx
        · obtain ⟨i, j, rfl⟩ := hm a (List.mem_cons_self ..)
          obtain ⟨t, e, g3, g4⟩ := pairOf_rp g1
          exact ⟨t, i, j, e, g3, g4⟩
        · exact ih g2 (fun d hd => hm d (List.mem_cons_of_mem _ hd)) x hx
    exact gen s1 hp
  refine ⟨a, xs, pairOf F, rfl, hz ▸ h1, fun x hx => ?_, fun ys p hs hb hn => ?_⟩
  · obtain ⟨t, i, j, e, g, g2⟩ := sx x hx
    rw [g2]
    exact ⟨t, e, r.ext.at g rfl⟩
  · obtain ⟨l', pm, s2⟩ := Rps.perm hb.perm s1
    refine ⟨_, S, .lst l', Ext.new (r.ext.free hn), r.lay _ hn, ⟨p, _, rfl, upd_same, s2.mono (Ext.new (r.ext.free hn))⟩, q1 l' pm ?_⟩
    refine Rps.pairs (P := fun x y => ltP (pairOf F) y x = false) (fun d e x y g1 g2 hlt i j i' j' ed ee => ?_) s2 hs
    subst ed; subst ee
    obtain ⟨_, _, _, k1⟩ := pairOf_rp g1
    obtain ⟨_, _, _, k2⟩ := pairOf_rp g2
    have := SrtO.lexB_no.mp hlt
    rw [k1, k2] at this
    simp only at this
    omega⟩⟩
end
end DL

namespace DL
open PySem L2 PySem.Spec PyProof.Rows PySem.SeqAt
section
variable {P : Program} {w : World} {A : Around} {E : Value → Shared → Prop} {s : Shared}
/-- a call of a built-in type, its two halves as codes -/
theorem type_halves {T newId initId : String} {args : List Value} {Q Q₁ : Value → Shared → Prop} (ft : TypeCalled T newId initId) (hct : checkTypeCall T ⟨args, []⟩ = pure ())
    (hnew : codeAny (model P w) A.in1 (.call (.builtin newId) ⟨.type T :: args, []⟩) (wants Q₁ E) s)
    (hinit : ∀ obj s₁, Q₁ obj s₁ → s₁.TypeIs obj T ∧ codeAny (model P w) A.in1 (.call (.builtin initId) ⟨obj :: args, []⟩) (wants (fun r s₂ => r = .none ∧ Q obj s₂) E) s₁) :
    wpAny (model P w) A (call (.type T) args) Q E s := by
  obtain ⟨c, tl, hmro⟩ := ft.mro
  have hmade := ft.made
  have hsub := ft.sub
  have h1 := ft.notType
  have h2 := ft.canCreate
  refine wpAny_call (codeAny_of_tree ?_)
  show wpAny _ _ (callAny (.type T) _) _ _ _
  refine wpAny_pure ⟨Code.quiet_builtin _ (by decide +kernel), codeAny_builtin PySem.F.entry_type_call ?_⟩
  rw [Around.under_plain (weight_type_call_type T args []) rfl]
  repeat (any_goals (first | assumption | wp_step))
  refine codeAny_mono hnew fun r s₁ hr => ?_
  match r, hr with
  | .error e, hr => exact hr
  | .ok (.ret obj), hr =>
    obtain ⟨hT, hi⟩ := hinit _ _ hr
    have hli := ft.init.lookup
    have hbi := ft.init.bind obj
    repeat (any_goals (first | assumption | wp_step))
    refine codeAny_mono hi fun r₂ s₂ hr₂ => ?_
    match r₂, hr₂ with
    | .error e, hr₂ => exact hr₂
    | .ok (.ret r), hr₂ =>
      obtain ⟨rfl, hq⟩ := hr₂
      repeat (any_goals (first | assumption | wp_step))
def set0 (w : World) : Obj := { cls := .type "set", dict := none, data := .set #[] 0 (.fresh 0 0 (!w.params.followText "set-order")) }
/-- the new set takes in the list's numbers -/
theorem set_fill {l S : Addr} {items : Array Value} (ns : List Int) {R : Result → Shared → Prop} (hh : A.handled = none) (hl : s.heap.IsList l items) (hit : IntsAre items.toList ns) (hb : ns.length + 1 < scanBound)
    (hS : s.heap.get? S = some (set0 w)) (hne : l ≠ S)
    (h : ∀ (h' : Heap) (tk c : Nat), SetR w h' S (fun j => decide (j ∈ ns)) c → (∀ b o, b ≠ S → s.heap.get? b = some o → h'.get? b = some o) → R (.ok (.ret .none)) { s with heap := h', toks := tk }) :
    codeAny (model P w) A (.call (.builtin "set.__init__") ⟨[.ref S, .ref l], []⟩) R s := by
  have hT : Shared.TypeIs s (.ref S) "set" := ⟨_, hS, rfl⟩
  refine codeAny_call_builtin PySem.F.called_set.init.plain PySem.F.entry_set_init (check_set_init_1 hT ?_)
  have z : items.size = ns.length := by rw [← Array.length_toList]; exact hit.length
  have hsls := PySem.F.sub_list_set
  have hslf := PySem.F.sub_list_frozenset
  have hnd : (Value.type "list" == Value.type "dict") = false := by decide
  have hl1 := hl
  obtain ⟨⟨ocls, odict, odata, oslots⟩, hol, hcl, nl, hdl⟩ := hl
  simp only at hcl hdl
  subst hcl; subst hdl
  unfold Builtin.«set.__init__» noKeywords Builtin.Frozenset.updateFrom
  generalize hPI : pyIter = PI
  wp_walk
  subst hPI
  refine wpAny_pyIter_list hl1 ?_
  refine wpAny_bind (wpAny_runValue ?_)
  have lS : S < s.heap.objs.size := Heap.lt_size hS
  have ll : l < s.heap.objs.size := Heap.lt_size hol
  refine set_update_ints ((Walks.list (by simp [hh]) _ l (Nat.ne_of_lt ll) items).toS) S ?_ ns z hb (fun i v hv => ?_) (items.size - 0) 0 _ (by omega) (Nat.zero_le _) ⟨⟨_, Heap.get?_push_size _ rfl, rfl, rfl⟩, hl1.push _⟩ ⟨0, Nat.le_refl 0, setR_new_at (Heap.get?_push_of_some _ hS)⟩ fun s' c hm hc hR => ?_
  · simp only [List.mem_cons, List.not_mem_nil, or_false, not_or]
    exact ⟨Nat.ne_of_lt lS, fun e => hne e.symm⟩
  · obtain ⟨t, e⟩ := IntsAre.int_at hit i v (by rw [Array.getElem?_toList]; exact hv)
    have hi : i < ns.length := by rw [← z]; exact (Array.getElem?_eq_some_iff.mp hv).1
    exact ⟨ns[i], t, List.getElem?_eq_getElem hi, by rw [e, List.getD_eq_getElem?_getD, List.getElem?_eq_getElem hi]; rfl⟩
  · obtain ⟨h', g', d', tk', os'⟩ := s'
    have eg : g' = s.gens := hm.gens
    have ed : d' = s.drawn := hm.drawn
    have eo : os' = s.os := hm.os
    subst eg; subst ed; subst eo
    refine wpAny_pure ?_
    refine wpAny_pure (h h' tk' c hR fun b o hb e => hm.heap b o ?_ (Heap.get?_push_of_some _ e))
    have hb0 := Heap.lt_size e
    simp only [List.mem_cons, List.not_mem_nil, or_false, not_or]
    exact ⟨hb, Nat.ne_of_lt hb0⟩
theorem set_of_list {l : Addr} {items : Array Value} (ns : List Int) {Q : Value → Shared → Prop} (hh : A.handled = none) (hl : s.heap.IsList l items) (hit : IntsAre items.toList ns) (hb : ns.length + 1 < scanBound)
    (h : ∀ (h' : Heap) (tk c : Nat), SetR w h' s.heap.objs.size (fun j => decide (j ∈ ns)) c → (∀ b o, s.heap.get? b = some o → h'.get? b = some o) → Q (.ref s.heap.objs.size) { s with heap := h', toks := tk }) :
    wpAny (model P w) A (call (.type "set") [.ref l]) Q E s := by
  have hlt : l < s.heap.objs.size := by
    obtain ⟨o, ho, _⟩ := hl
    exact Heap.lt_size ho
  refine type_halves (Q₁ := fun obj s₁ => obj = .ref s.heap.objs.size ∧ s₁ = { s with heap := s.heap.push (set0 w) }) PySem.F.called_set (PySem.F.typeCall_set_1 _) (code_set_led1 (.ref l) ⟨rfl, rfl⟩) ?_
  rintro obj s₁ ⟨rfl, rfl⟩
  have hS : (s.heap.push (set0 w)).get? s.heap.objs.size = some (set0 w) := Heap.get?_push_size _ rfl
  refine ⟨⟨_, hS, rfl⟩, set_fill ns (by simp [hh]) (hl.push _) hit hb hS (Nat.ne_of_lt hlt) fun h' tk c hR k => ⟨rfl, h h' tk c hR fun b o e => k b o (Nat.ne_of_lt (Heap.lt_size e)) (Heap.get?_push_of_some _ e)⟩⟩
theorem rising_of : ∀ {l : List Int}, l.Pairwise (· ≤ ·) → l.Nodup → l.Pairwise (· < ·)
  | [], _, _ => .nil
  | a :: l, h, n => by
    obtain ⟨h1, h2⟩ := List.pairwise_cons.mp h
    obtain ⟨n1, n2⟩ := List.nodup_cons.mp n
    refine List.pairwise_cons.mpr ⟨fun b hb => ?_, rising_of h2 n2⟩
    have := h1 b hb
    have : a ≠ b := fun e => n1 (e ▸ hb)
    omega
/-- sorted(a set), any number of members -/
theorem sorted_setI {a : Addr} {S : Int → Bool} {n : Nat} {Q : Value → Shared → Prop} (R : SetR w s.heap a S n) (hh : A.handled = none)
    (hQ : ∀ s' p (out : Array Value) (c : Nat) (ns : List Int), (∀ b o, s.heap.get? b = some o → s'.heap.get? b = some o) → s'.gens = s.gens → s'.os = s.os → s.heap.objs.size ≤ p → s'.heap.get? p = some (seqObj "list" out c) → IntsAre out.toList ns →
      ns.Pairwise (· < ·) → (∀ k, k ∈ ns ↔ S k = true) → ns.length ≤ sizeLine → Q (.ref p) s') :
    wpAny (model P w) A (call (.builtin "sorted") [.ref a]) Q E s := by
  obtain ⟨o, es, ep, t, ho, hex, hd, g, nd, hm, hb, hf, hn, hr, hl⟩ := R
  refine Calls.call_function_entry kind_sorted plain_sorted entry_sorted (args_sorted1 _) ?_
  unfold Builtin.«sorted»
  refine wpAny_bind (m := checkCount "sorted" 1 1 _) (wpAny_pure ?_)
  refine wpAny_bind (collect_set (A := A.in1) hh ⟨o, ho, hex.1, hd⟩ hf hb hr hl fun s1 vs k1 hz g1 o1 pm => ?_)
  have hlen : vs.length ≤ sizeLine := by
    rw [pm.length_eq, List.length_map, Array.length_toList]
    exact fits_of_scanBound hb
  have hI : IntsAre vs (vs.map Builtin.Re.reRawOf) := ints_of vs fun v hv => by
    obtain ⟨e, he, q⟩ := List.mem_map.mp (pm.mem_iff.mp hv)
    obtain ⟨k, tk, h1, _⟩ := g e he
    exact ⟨k, tk, by rw [← q]; exact h1⟩
  have pk : (vs.map Builtin.Re.reRawOf).Perm (es.toList.map keyOf) := by
    have q := pm.map Builtin.Re.reRawOf
    rw [List.map_map] at q
    exact q
  refine wpAny_bind (wpAny_newList ?_ hlen)
  have hoL : (s1.heap.push (seqObj "list" vs.toArray 0)).get? s1.heap.objs.size = some (seqObj "list" vs.toArray 0) := Heap.get?_push_size _ rfl
  refine wpAny_bind (wpAny_holding (wpAny_call_entry slot_list_sort ⟨_, hoL, rfl⟩ entry_list_sort (SrtO.list_sort_ord SrtO.swo_int hoL hlen (fun h2 => SrtO.ints_sortable hI h2) fun out h1 h2 => ⟨_, rfl, ?_⟩) (args_list_sort _)))
  obtain ⟨e1, e2, e3⟩ := SrtO.ints_out hI h1 h2
  obtain ⟨c, hc⟩ := sortedHeap_at (vs := vs) (out := out.toArray) hoL
  have pn := e2.trans pk
  refine wpAny_pure ⟨_, rfl, hQ _ s1.heap.objs.size out.toArray c _ (fun b u e => ?_) g1 o1 hz hc e1 (rising_of e3 (pn.nodup_iff.mpr nd)) (fun k => by rw [pn.mem_iff, ← hm k]) ?_⟩
  · have q := k1 b u e
    have hlt := Heap.lt_size q
    show (sortedHeap (s1.heap.push (seqObj "list" vs.toArray 0)) s1.heap.objs.size vs out.toArray).get? b = some u
    rw [sortedHeap_old (Nat.ne_of_lt hlt) (by rw [size_push']; exact Nat.lt_succ_of_lt hlt)]
    exact Heap.get?_push_of_some _ q
  · rw [pn.length_eq, List.length_map, Array.length_toList]; exact fits_of_scanBound hb
end
section
variable {X : Cx}
def rSetL (w : World) (K : PySem.W.Frag) : List V → Hp → VK → Prop := fun xs H Q => ∃ (l : Addr) (ns : List Int), xs = [.ref l] ∧ SqL K H l (ns.map V.int) ∧ ns.length + 1 < scanBound ∧ ∀ p c, H p = none → Q (.ref p) (upd H p (SetO w p (fun j => decide (j ∈ ns)) c))
theorem cr_setL (hc : X.calm = true) : CallR X (.type "set") (rSetL X.w X.K) := by
  intro pins s σ H xs us Q I r h
  obtain ⟨l, ns, rfl, hs, hb, q⟩ := h
  obtain ⟨its, rv, hl, _⟩ := I.list hs
  rw [Vals.ref1 r]
  exact set_of_list ns (I.ok.hd hc) hl.isList rv.ints hb fun h' tk c hR k => ⟨.ref _, _, I.laid (t' := tk) k (Nat.le_refl _) (setO_new hR), rfl, q _ c (I.hok.fresh (Nat.le_refl _))⟩
def rSortSet (w : World) : List V → Hp → VK → Prop := fun vs H Q => ∃ (a : Addr) (S : Int → Bool) (n : Nat), vs = [V.ref a] ∧ H a = some (SetO w a S n) ∧
  ∀ (ns : List Int) (p : Addr), ns.Pairwise (· < ·) → (∀ k : Int, k ∈ ns ↔ S k = true) → H p = none → Q (.ref p) (upd H p (.lst (ns.map V.int)))
theorem cr_sortSet (hc : X.calm = true) : CallR X (.builtin "sorted") (rSortSet X.w) := by
  intro pins s σ H vs us Q I r h
  obtain ⟨a, S, n, rfl, ha, q⟩ := h
  rw [Vals.ref1 r]
  refine sorted_setI (setO_get I ha) (I.ok.hd hc) fun s' p out c ns k g o hp hg hi hs hm hl => ?_
  have hn : H p = none := I.hok.fresh hp
  exact ⟨.ref p, upd H p (.lst (ns.map V.int)), I.call' (ch := []) o (Un.laid k hp hn) (I.hok.laid k hp ⟨by rw [List.length_map]; exact hl, out.toList, c, vals_of_ints hi, hg⟩) (by rw [g]; exact I.bare) (fun _ z => nomatch z), rfl, q ns p hs hm hn⟩
end
/-- sorted(set(x)) -/
def dSortSet (fo : DO) : DE := fun S R => fo S fun o S1 => view S1 (onLS fun l => onInts (fun ns => ns.length + 1 < scanBound ∧ ∀ ns' : List Int, ns'.Pairwise (· < ·) → (∀ k, k ∈ ns' ↔ k ∈ ns) → R (.lst (ns'.map .int)) S1) l) o
section
variable {X : Cx} {z : Z} {a : Expr} {p p2 pos pos2 : Pos} {fo : DO}
theorem je_sortSet (hz : z.n.K = X.K) (hc : X.calm = true) (hg : Gl X "sorted") (hm : X.mg "sorted" = none) (hg2 : Gl X "set") (hm2 : X.mg "set" = none) (ha : JO X z a fo) (hv : bootBuiltins "sorted" = some (.builtin "sorted") := by decide +kernel) (hv2 : bootBuiltins "set" = some (.type "set") := by decide +kernel)
    (he2 : starEach [a] X.env = (false, eval a X.env) :: starEach [] X.env := by rfl) (hpl2 : (backTo pos2 (starEach [] X.env)).any (·.1) = false := by rfl)
    (he : starEach [.Call (.Name "set" p2) [a] [] pos2] X.env = (false, eval (.Call (.Name "set" p2) [a] [] pos2) X.env) :: starEach [] X.env := by rfl) (hpl : (backTo pos (starEach [] X.env)).any (·.1) = false := by rfl) :
    JE X z (.Call (.Name "sorted" p) [.Call (.Name "set" p2) [a] [] pos2] [] pos) (dSortSet fo) :=
  JE.of (pe_callB (cr_sortSet hc) hg hm hv (pa_cons (pe_callTy (cr_setL hc) hg2 hm2 hv2 (pa_cons ha pa_nil he2) (he := he2) (hpl := hpl2)) pa_nil he) (he := he) (hpl := hpl)) fun F σ H S R r hf => tO.use r hf fun v H1 F1 S1 a1 x1 r1 h1 q1 => by
    obtain ⟨d, rv, q0⟩ := h1.view r1 q1
    obtain ⟨l, hd, q2⟩ := onLS.get q0
    obtain ⟨ns, rfl, q3, q4⟩ := onInts.get q2
    obtain ⟨b, xs, rfl, g1, s1⟩ := rv.list r1.ext hd
    rw [s1.ints] at g1
    refine ⟨b, ns, rfl, hz ▸ g1, q3, fun p c hn => ?_⟩
    have r2 := r1.layF (SetO X.w p (fun j => decide (j ∈ ns)) c) hn
    refine ⟨p, _, c, rfl, upd_same, fun ns' t k1 k2 k3 => ?_⟩
    exact ⟨_, S1, .lst (ns'.map D.int), x1.trans (Ext.new (r2.ext.free k3)), r2.lay _ k3, ⟨t, _, rfl, upd_same, Rps.of_ints ns'⟩, q4 ns' k1 fun k => by rw [k2 k]; exact decide_eq_true_iff⟩
end
@[reducible] def onTru (k : Bool → Prop) : D → Prop
  | .non => k false
  | .bl b => k b
  | .int i => k (decide (i ≠ 0))
  | _ => False
theorem onTru.get {n : Nm} {F H : Hp} {K : PySem.W.Frag} {k : Bool → Prop} : ∀ {d : D} {v : V}, onTru k d → Rp n F d v → ∃ b, TruV K v H b ∧ k b
  | .non, v, h, r => ⟨false, by rw [show v = .non from r]; rfl, h⟩
  | .bl b, v, h, r => ⟨b, by rw [show v = .bl b from r]; rfl, h⟩
  | .int i, v, h, r => ⟨decide (i ≠ 0), by
    rw [show v = .int i from r]
    show decide (i ≠ 0) = (i != 0)
    by_cases q : i = 0 <;> simp [q], h⟩
  | .str _, _, h, _ => h.elim
  | .tup _, _, h, _ => h.elim
  | .lst _, _, h, _ => h.elim
  | .dK _, _, h, _ => h.elim
  | .dT _, _, h, _ => h.elim
  | .ins _ _, _, h, _ => h.elim
  | .scr _, _, h, _ => h.elim
  | .stt, _, h, _ => h.elim
def eOrT (f g : DE) : DE := fun S R => f S fun d S1 => onTru (fun b => (b = true → R d S1) ∧ (b = false → g S1 R)) d
def eAndT (f g : DE) : DE := fun S R => f S fun d S1 => onTru (fun b => (b = true → g S1 R) ∧ (b = false → R d S1)) d
section
variable {X : Cx} {z : Z} {a b : Expr} {rest : List Expr} {pos : Pos} {fe ge : DE}
theorem je_orT (ha : JE X z a fe) (hb : JE X z (.BoolOp .Or (b :: rest) pos) ge) : JE X z (.BoolOp .Or (a :: b :: rest) pos) (eOrT fe ge) :=
  JE.of (pe_orT ha hb) fun F σ H S R rp hf => tE.use rp hf fun v H' F' S' d x r' h' q => by
    obtain ⟨k, e, q1, q2⟩ := onTru.get (K := X.K) (H := H') q h'
    refine ⟨k, e, ?_⟩
    cases k with
    | true => exact iteT ⟨F', S', d, x, r', h', q1 rfl⟩
    | false => exact iteF (tE.use r' (q2 rfl) fun v2 H2 F2 S2 d2 x2 r2 h2 q2 => ⟨F2, S2, d2, x.trans x2, r2, h2, q2⟩)
theorem je_andT (ha : JE X z a fe) (hb : JE X z (.BoolOp .And (b :: rest) pos) ge) : JE X z (.BoolOp .And (a :: b :: rest) pos) (eAndT fe ge) :=
  JE.of (pe_andT ha hb) fun F σ H S R rp hf => tE.use rp hf fun v H' F' S' d x r' h' q => by
    obtain ⟨k, e, q1, q2⟩ := onTru.get (K := X.K) (H := H') q h'
    refine ⟨k, e, ?_⟩
    cases k with
    | true => exact iteT (tE.use r' (q1 rfl) fun v2 H2 F2 S2 d2 x2 r2 h2 q2 => ⟨F2, S2, d2, x.trans x2, r2, h2, q2⟩)
    | false => exact iteF ⟨F', S', d, x, r', h', q2 rfl⟩
end
end DL

namespace DL
open PySem L2 PySem.Spec PyProof.Rows PySem.SeqAt
def dDGet1 (fo : DO) (fe : DE) : DE := fun S R => fo S fun o S1 => view S1 (onDK fun _ => fe S1 fun e S2 => view S2 (onDK fun l => onKey (fun k => R ((lookK l k).getD .non) S2) e) o) o
section
variable {X : Cx} {z : Z} {o e x : Expr} {apos cpos : Pos} {fo : DO} {fe fx : DE}
theorem je_dget1 (hu : X.A.units + 64 < cLine) (ho : JO X z o fo) (he : JE X z e fe) (hbase : attributeBase o "get" X.env (eval o X.env) = eval o X.env := by rfl)
    (hfew : ((backTo cpos (starEach [e] X.env)).all (fun x => !x.1) && (backToKw cpos (keywordEach [] X.env)).all (fun x => x.1.isSome)
      && decide (([e] : List Expr).length + ([] : List Keyword).length + (if ([] : List Keyword).isEmpty then 0 else 1) < 30)) = true := by rfl)
    (hline : (apos.endLine == cpos.line) = true := by rfl) (ht : backTo cpos (starEach [e] X.env) = [(false, eval e X.env)] := by rfl) :
    JE X z (.Call (.Attribute o "get" apos) [e] [] cpos) (dDGet1 fo fe) :=
  JE.of (pe_dget1 (by omega) ho he ⟨hbase, hfew, hline, ht⟩) fun F σ H S R r hf => tO.use r hf fun v H1 F1 S1 a1 x1 r1 h1 q1 => by
    obtain ⟨d, rv, q0⟩ := h1.view r1 q1
    obtain ⟨l0, rfl, q2⟩ := onDK.get q0
    obtain ⟨c, kvs0, rfl, h2, s1⟩ := rv
    refine ⟨c, rfl, .inl ⟨kvs0, h2⟩, tE.use r1 q2 fun w H2 F2 S2 d2 x2 r2 h3 q3 => ?_⟩
    obtain ⟨d, rv, q5⟩ := (h1.mono x2).view r2 q3
    obtain ⟨l, rfl, q6⟩ := onDK.get q5
    obtain ⟨c', kvs, e1, h5, s2⟩ := rv
    cases e1
    obtain ⟨k, rfl, q7⟩ := onKey.get q6 h3
    refine ⟨valV kvs k, (.inl ⟨_, _, h5, rfl, rfl⟩), F2, S2, (lookK l k).getD .non, x1.trans x2, r2, ?_, q7⟩
    cases e2 : lookK l k with
    | none => rw [(s2.look (k := k)).2 e2]; rfl
    | some d' =>
      obtain ⟨v', hv, rv'⟩ := (s2.look (k := k)).1 d' e2
      rw [hv]; exact rv'
def dCount (fo : DO) (f : DE) : DE := fun S R => fo S fun o S1 => view S1 (onL fun _ => f S1 fun e S2 => view S2 (onL fun l => onI (fun y => onInts (fun ns => R (.int (ns.count y : Nat)) S2) l) e) o) o
theorem je_count (hz : z.n.K = X.K) (ho : JO X z o fo) (he : JE X z e fe)
    (hbase : attributeBase o "count" X.env (eval o X.env) = eval o X.env := by rfl)
    (hfew : ((backTo cpos (starEach [e] X.env)).all (fun x => !x.1) && (backToKw cpos (keywordEach [] X.env)).all (fun x => x.1.isSome)
      && decide ([e].length + ([] : List Keyword).length + (if ([] : List Keyword).isEmpty then 0 else 1) < 30)) = true := by rfl)
    (hline : (apos.endLine == cpos.line) = true := by rfl) (hs : starEach [e] X.env = (false, eval e X.env) :: starEach [] X.env := by rfl) (hplain : (backTo cpos (starEach [] X.env)).any (·.1) = false := by rfl) :
    JE X z (.Call (.Attribute o "count" apos) [e] [] cpos) (dCount fo fe) :=
  JE.of (pe_bm PySem.F.plainAttrs_list PySem.F.slot_list_count PySem.F.type_list_count mt_lcount ho (pa_cons he pa_nil hs) hbase hfew hline hs hplain) fun F σ H S R r hf => tO.use r hf fun v H1 F1 S1 a1 x1 r1 h1 q1 => by
    obtain ⟨d, rv, q0⟩ := h1.view r1 q1
    obtain ⟨l0, rfl, q2⟩ := onL.get q0
    obtain ⟨c, xs, rfl, h2, s1⟩ := rv
    refine ⟨.inl ⟨rfl, _, SqL.of h2⟩, tE.use r1 q2 fun w H2 F2 S2 d2 x2 r2 h3 q3 => ?_⟩
    obtain ⟨d, rv, q4⟩ := (h1.mono x2).view r2 q3
    obtain ⟨l, rfl, q5⟩ := onL.get q4
    obtain ⟨c', ys, e1, h4, s2⟩ := rv
    cases e1
    obtain ⟨y, rfl, q6⟩ := onI.get q5
    obtain ⟨ns, rfl, q7⟩ := onInts.get q6
    have e3 := s2.ints
    subst e3
    rw [show w = .int y from h3]
    exact ⟨c, ns, y, rfl, rfl, SqL.of h4, F2, S2, _, x1.trans x2, r2, rfl, q7⟩
end
/-- a, a + c, ..: n of them -/
def rgL (a c : Int) (n : Nat) : List Int := (List.range n).map fun (i : Nat) => a + (i : Int) * c
theorem rgL_length {a c : Int} {n : Nat} : (rgL a c n).length = n := by unfold rgL; rw [List.length_map, List.length_range]
theorem vals_rgL {a c : Int} {n : Nat} {acc : Array Value} (h : ItemsOf (fun i v => ∃ t, v = .int (a + i * c) t) acc n) : Vals ((rgL a c n).map V.int) acc.toList := by
  have e : acc.toList.length = n := by rw [Array.length_toList]; exact h.1
  unfold rgL
  rw [← e, List.map_map]
  refine vals_of_get acc.toList _ fun j u hj => ?_
  obtain ⟨t, rfl⟩ := h.2 j u (by rw [← hj, Array.getElem?_toList])
  exact ⟨t, rfl⟩
/-- an expression that makes a range -/
def PRgC (X : Cx) (e : Expr) (t : L2.St → Hp → (Int → Int → Nat → Hp → Prop) → Prop) : Prop :=
  ∀ (pins : List (Addr × Obj)) (s : Shared) (σ : L2.St) (H : Hp) (Q : Int → Int → Nat → Hp → Prop), Inv X pins σ H s → t σ H Q →
    wpAny (model X.prog X.w) X.A (eval e X.env) (fun x s' => ∃ r a b c n t u v H', x = .ref r ∧ IsRange s'.heap r a b c t u v ∧ Builtin.Range.small a b c = true ∧ Builtin.Range.rangeSize a b c = (n : Nat) ∧ Inv X pins σ H' s' ∧ Q a c n H') X.xe s
section
variable {X : Cx} {a b c e : Expr} {p pos : Pos}
def tRgO (t : L2.St → Hp → (Int → Int → Hp → Prop) → Prop) : L2.St → Hp → (Int → Int → Nat → Hp → Prop) → Prop := fun σ H Q => t σ H fun i j H1 => RgOk i j ∧ Q i 1 (j - i).toNat H1
theorem prgC_of {t : L2.St → Hp → (Int → Int → Hp → Prop) → Prop} (h : PRg X e t) : PRgC X e (tRgO t) := by
  intro pins s σ H Q I hq
  refine wpAny_mono (h pins s σ H _ I hq) (fun x s' hx => ?_) (fun _ _ he => he)
  obtain ⟨r, a, b, t, u, v, H', ex, hr, I', ⟨b1, b2, b3, b4, b5⟩, q⟩ := hx
  exact ⟨r, a, b, 1, _, t, u, v, H', ex, hr, small_one b1 b2 b3 b4, rangeSize_nat a b, I', q⟩
def tRg3 (ta : TA) : L2.St → Hp → (Int → Int → Nat → Hp → Prop) → Prop := fun σ H Q => ta σ H fun vs H1 => ∃ (i j c : Int) (n : Nat), vs = [.int i, .int j, .int c] ∧ RgC i j c n ∧ Q i c n H1
theorem prgC_3 {ta : TA} (hg : Gl X "range") (hm : X.mg "range" = none) (ha : PA X [a, b, c] ta)
    (hs : starEach [a, b, c] X.env = (false, eval a X.env) :: starEach [b, c] X.env := by rfl) (hpl : (backTo pos (starEach [b, c] X.env)).any (·.1) = false := by rfl) :
    PRgC X (.Call (.Name "range" p) [a, b, c] [] pos) (tRg3 ta) := by
  intro pins s σ H R I h
  refine Call_ (ld_blt I hg hm boot_range (PyProof.Rows.callWith_type1 (thn (ha.run pos pins s σ H _ I h) fun us s1 ⟨vs, H1, I1, r1, q1⟩ => ?_) hs hpl))
  obtain ⟨i, j, k, n, e, ⟨c0, c1, c2, c3⟩, q⟩ := q1
  subst e
  cases r1 with
  | cons r rr =>
    cases rr with
    | cons r' rr =>
      cases rr with
      | cons r'' rr =>
        cases rr
        obtain ⟨t, rfl⟩ := r
        obtain ⟨t', rfl⟩ := r'
        obtain ⟨t'', rfl⟩ := r''
        exact call_range_3 c0 ⟨_, i, j, k, n, _, _, _, H1, rfl, IsRange.new .., c2, c3, I1.kept (t' := s1.toks) fun b o e => Heap.get?_push_of_some _ e, q⟩ (.inl (PyProof.noPylong_small c1))
def tLstRgC (t : L2.St → Hp → (Int → Int → Nat → Hp → Prop) → Prop) : TE := fun σ H Q => t σ H fun a c n H1 => n ≤ 16777216 ∧ ∀ q, H1 q = none → Q (.ref q) (upd H1 q (.lst ((rgL a c n).map V.int)))
theorem pe_listRgC {t : L2.St → Hp → (Int → Int → Nat → Hp → Prop) → Prop} (hc : X.calm = true) (hg : Gl X "list") (hm : X.mg "list" = none) (he : PRgC X e t) (na : starEach [e] X.env = (false, eval e X.env) :: starEach [] X.env := by rfl) : PE X (.Call (.Name "list" p) [e] [] pos) (tLstRgC t) := by
  refine ⟨fun pins s σ H Q I h => ?_⟩
  refine Call_ (ld_blt I hg hm boot_list (PyProof.Rows.callWith_type1 (args_cons (thn (he pins s σ H _ I h) fun x s1 ⟨r, a, b, c, n, t, u, v, H1, ex, hr, sm, sz, I1, ok, q⟩ => args_nil ?_) na) na))
  subst ex
  refine call_list_range (n := n) (I1.ok.hd hc) hr sm sz (by omega) fun h' tk acc c' hk e' hi => ?_
  refine ⟨.ref s1.heap.objs.size, upd H1 s1.heap.objs.size (.lst ((rgL a c n).map V.int)), I1.laid hk (Nat.le_refl _) (show ObjOk X.prog X.w _ _ _ (.lst ((rgL a c n).map V.int)) from ⟨?_, acc.toList, c', vals_rgL hi, ?_⟩), rfl, q _ (I1.hok.fresh (Nat.le_refl _))⟩
  · rw [List.length_map, rgL_length, sizeLine_eq]; omega
  · rw [Array.toArray_toList]; exact e'
variable {z : Z} {f g h : DE}
def fRg1 (f : DE) : DF := fun S R => f S fun d S1 => onI (fun n => RgOk 0 n ∧ R (.lst ((rgL 0 1 (n - 0).toNat).map D.int)) S1) d
def fRg2 (f g : DE) : DF := fun S R => f S fun d S1 => g S1 fun e S2 => onI (fun i => onI (fun j => RgOk i j ∧ R (.lst ((rgL i 1 (j - i).toNat).map D.int)) S2) e) d
def fRg3 (f g h : DE) : DF := fun S R => f S fun d S1 => g S1 fun e S2 => h S2 fun c S3 => onI (fun i => onI (fun j => onI (fun c => RgC i j c (Builtin.Range.rangeSize i j c).toNat ∧ (Builtin.Range.rangeSize i j c).toNat ≤ 16777216 ∧ R (.lst ((rgL i c (Builtin.Range.rangeSize i j c).toNat).map D.int)) S3) c) e) d
theorem jf_rg1 (hc : X.calm = true) {p' pos' : Pos} (hgl : Gl X "list") (hml : X.mg "list" = none) (hgr : Gl X "range") (hmr : X.mg "range" = none) (ha : JE X z a f)
    (h1 : starEach [a] X.env = (false, eval a X.env) :: starEach [] X.env := by rfl) (h2 : starEach [.Call (.Name "range" p') [a] [] pos'] X.env = (false, eval (.Call (.Name "range" p') [a] [] pos') X.env) :: starEach [] X.env := by rfl) :
    JF X z (.Call (.Name "list" p) [.Call (.Name "range" p') [a] [] pos'] [] pos) (fRg1 f) :=
  JF.of (pe_listRgC hc hgl hml (prgC_of (prg_1 hgr hmr ha h1)) h2) fun F σ H S R r hf => tE.use r hf fun v H1 F1 S1 d x1 r1 h1 q => by
    obtain ⟨n, rfl, ok, q1⟩ := onI.get q
    refine ⟨n, h1, ok, by have := ok.2.2.2.2; omega, fun t ht => ?_⟩
    obtain ⟨r4, fr⟩ := r1.fresh (c := .lst ((rgL 0 1 (n - 0).toNat).map D.int)) (o := .lst ((rgL 0 1 (n - 0).toNat).map V.int)) ht ⟨_, upd_same, Rps.of_ints _⟩
    exact ⟨F1, S1, _, t, rfl, x1, r4, fr, q1⟩
theorem jf_rg2 (hc : X.calm = true) {p' pos' : Pos} (hgl : Gl X "list") (hml : X.mg "list" = none) (hgr : Gl X "range") (hmr : X.mg "range" = none) (ha : JE X z a f) (hb : JE X z b g)
    (h1 : starEach [a, b] X.env = (false, eval a X.env) :: starEach [b] X.env := by rfl) (h1' : starEach [b] X.env = (false, eval b X.env) :: starEach [] X.env := by rfl) (hp : (backTo pos' (starEach [b] X.env)).any (·.1) = false := by rfl)
    (h2 : starEach [.Call (.Name "range" p') [a, b] [] pos'] X.env = (false, eval (.Call (.Name "range" p') [a, b] [] pos') X.env) :: starEach [] X.env := by rfl) :
    JF X z (.Call (.Name "list" p) [.Call (.Name "range" p') [a, b] [] pos'] [] pos) (fRg2 f g) :=
  JF.of (pe_listRgC hc hgl hml (prgC_of (prg_2 hgr hmr ha hb h1 h1' hp)) h2) fun F σ H S R r hf => tE.use r hf fun v H1 F1 S1 d x1 r1 h1 q => tE.use r1 q fun w H2 F2 S2 d2 x2 r2 h2 q2 => by
    obtain ⟨i, rfl, q3⟩ := onI.get q2
    obtain ⟨j, rfl, ok, q4⟩ := onI.get q3
    refine ⟨i, j, h1, h2, ok, by have := ok.2.2.2.2; omega, fun t ht => ?_⟩
    obtain ⟨r4, fr⟩ := r2.fresh (c := .lst ((rgL i 1 (j - i).toNat).map D.int)) (o := .lst ((rgL i 1 (j - i).toNat).map V.int)) ht ⟨_, upd_same, Rps.of_ints _⟩
    exact ⟨F2, S2, _, t, rfl, x1.trans x2, r4, fr, q4⟩
theorem jf_rg3 (hc : X.calm = true) {p' pos' : Pos} (hgl : Gl X "list") (hml : X.mg "list" = none) (hgr : Gl X "range") (hmr : X.mg "range" = none) (ha : JE X z a f) (hb : JE X z b g) (hcc : JE X z c h)
    (hs : starEach [a, b, c] X.env = (false, eval a X.env) :: starEach [b, c] X.env := by rfl) (hs1 : starEach [b, c] X.env = (false, eval b X.env) :: starEach [c] X.env := by rfl) (hs2 : starEach [c] X.env = [(false, eval c X.env)] := by rfl)
    (hpl : (backTo pos' (starEach [b, c] X.env)).any (·.1) = false := by rfl)
    (h2 : starEach [.Call (.Name "range" p') [a, b, c] [] pos'] X.env = (false, eval (.Call (.Name "range" p') [a, b, c] [] pos') X.env) :: starEach [] X.env := by rfl) :
    JF X z (.Call (.Name "list" p) [.Call (.Name "range" p') [a, b, c] [] pos'] [] pos) (fRg3 f g h) :=
  JF.of (pe_listRgC hc hgl hml (prgC_3 hgr hmr (pa_cons ha (pa_cons hb (pa_cons hcc pa_nil hs2) hs1) hs) hs hpl) h2) fun F σ H S R r hf => tE.use r hf fun v H1 F1 S1 d x1 r1 h1 q => tE.use r1 q fun w H2 F2 S2 d2 x2 r2 h2 q2 => tE.use r2 q2 fun u H3 F3 S3 d3 x3 r3 h3 q3 => by
    obtain ⟨i, rfl, q4⟩ := onI.get q3
    obtain ⟨j, rfl, q5⟩ := onI.get q4
    obtain ⟨k, rfl, ok, sz, q6⟩ := onI.get q5
    refine ⟨i, j, k, _, by rw [show v = .int i from h1, show w = .int j from h2, show u = .int k from h3], ok, sz, fun t ht => ?_⟩
    obtain ⟨r4, fr⟩ := r3.fresh (c := .lst ((rgL i k (Builtin.Range.rangeSize i j k).toNat).map D.int)) (o := .lst ((rgL i k (Builtin.Range.rangeSize i j k).toNat).map V.int)) ht ⟨_, upd_same, Rps.of_ints _⟩
    exact ⟨F3, S3, _, t, rfl, (x1.trans x2).trans x3, r4, fr, q6⟩
end
end DL

namespace DL
open PySem L2 PySem.Spec PyProof.Rows PySem.SeqAt
section
variable {n : Nm} {F : Hp}
theorem RpK.keys : ∀ {l : List (Key × D)} {kvs : List (Key × V)}, RpK n F l kvs → kvs.map (·.1) = l.map (·.1)
  | [], _, h => by rw [show _ = [] from h]; rfl
  | (k, d) :: l, _, ⟨v, r, e, h1, h2⟩ => by subst e; simp [RpK.keys h2]
theorem RpT.keys : ∀ {l : List (List Key × D)} {kvs : List (List Key × V)}, RpT n F l kvs → kvs.map (·.1) = l.map (·.1)
  | [], _, h => by rw [show _ = [] from h]; rfl
  | (k, d) :: l, _, ⟨v, r, e, h1, h2⟩ => by subst e; simp [RpT.keys h2]
theorem RpK.at : ∀ {l : List (Key × D)} {kvs : List (Key × V)} {i : Nat} {k : Key} {v : V}, RpK n F l kvs → kvs[i]? = some (k, v) → ∃ d, l[i]? = some (k, d) ∧ Rp n F d v
  | [], _, i, k, v, h, e => by rw [show _ = [] from h] at e; cases e
  | (j, d) :: l, _, 0, k, v, ⟨w, r, e0, h1, h2⟩, e => by subst e0; cases e; exact ⟨d, rfl, h1⟩
  | (j, d) :: l, _, i + 1, k, v, ⟨w, r, e0, h1, h2⟩, e => by subst e0; exact RpK.at (i := i) h2 e
def keyT (k : List Key) : D := .tup (k.map keyD)
theorem keys_rps : ∀ {ks : List Key}, Rps n F (ks.map keyD) (ks.map kV)
  | [] => rfl
  | k :: ks => ⟨_, _, rfl, keyD_rp, keys_rps⟩
theorem itk_ok {d : Addr} {o : Obj} {kvs : List (Key × V)} {l : List (Key × D)} (h : F d = some (.frz o (.dK kvs))) (s : RpK n F l kvs) : ItOk n (Itk d o kvs) F (l.map fun p => keyD p.1) where
  go := fun F1 H1 i x1 x2 hi => ⟨x2.at (x1.at h rfl) rfl, by rw [List.length_map] at hi; rw [s.len]; exact hi⟩
  yld := fun F1 H1 i x H2 x1 x2 hy hi => by
    obtain ⟨rfl, k, v, e, rfl⟩ := hy
    obtain ⟨d', e', _⟩ := s.at e
    exact ⟨keyD k, F1, by rw [List.getElem?_map, e']; rfl, Ext.refl, x2, fun a o h => .inl ⟨o, h⟩, fun _ _ h => h, keyD_rp⟩
  stop := fun F1 H1 i x1 x2 hi => ⟨x2.at (x1.at h rfl) rfl, by rw [List.length_map] at hi; rw [s.len]; exact hi⟩
/-- a tuple that stands joins the known part -/
theorem tup_joins {F1 H1 : Hp} {q : Addr} {xs : List V} (x2 : Ext n F1 H1) (hq : H1 q = some (.tup xs)) : Ext n F1 (upd F1 q (.tup xs)) ∧ Ext n (upd F1 q (.tup xs)) H1 ∧ ∀ a o, upd F1 q (.tup xs) a = some o → Nw F1 H1 a o := by
  refine ⟨fun b u e => ?_, fun b u e => ?_, fun b u e => ?_⟩
  · by_cases hb : b = q
    · subst hb
      obtain ⟨u', e', le⟩ := x2 b u e
      rw [hq] at e'; cases e'
      exact ⟨_, upd_same, le⟩
    · exact ⟨u, by rw [upd_ne hb]; exact e, .refl u⟩
  · by_cases hb : b = q
    · subst hb; rw [upd_same] at e; cases e; exact ⟨_, hq, .refl _⟩
    · rw [upd_ne hb] at e; exact x2 b u e
  · by_cases hb : b = q
    · subst hb; rw [upd_same] at e; cases e; exact .inr (.inr ⟨_, rfl, hq⟩)
    · rw [upd_ne hb] at e; exact .inl ⟨u, e⟩
theorem itkt_ok {d : Addr} {o : Obj} {kvs : List (List Key × V)} {l : List (List Key × D)} (h : F d = some (.frz o (.dT kvs))) (s : RpT n F l kvs) : ItOk n (Itkt d o kvs) F (l.map fun p => keyT p.1) where
  go := fun F1 H1 i x1 x2 hi => ⟨x2.at (x1.at h rfl) rfl, by have := congrArg List.length s.keys; rw [List.length_map, List.length_map] at this; rw [List.length_map] at hi; omega⟩
  yld := fun F1 H1 i x H2 x1 x2 hy hi => by
    obtain ⟨rfl, k, v, q, e, rfl, hq⟩ := hy
    have ek := congrArg (fun ks : List (List Key) => ks[i]?) s.keys
    simp only [List.getElem?_map, e, Option.map_some] at ek
    obtain ⟨y1, y2, y3⟩ := tup_joins x2 hq
    refine ⟨keyT k, _, ?_, y1, y2, y3, fun _ _ h => h, ⟨q, _, rfl, upd_same, keys_rps⟩⟩
    rw [List.getElem?_map]
    cases e2 : l[i]? with
    | none => rw [e2] at ek; cases ek
    | some p => rw [e2] at ek; cases ek; rfl
  stop := fun F1 H1 i x1 x2 hi => ⟨x2.at (x1.at h rfl) rfl, by have := congrArg List.length s.keys; rw [List.length_map, List.length_map] at this; rw [List.length_map] at hi; omega⟩
theorem itd_ok {d : Addr} {o : Obj} {kvs : List (Key × V)} {l : List (Key × D)} (h : F d = some (.frz o (.dK kvs))) (s : RpK n F l kvs) : ItOk n (Itd d o kvs) F (l.map (·.2)) where
  go := fun F1 H1 i x1 x2 hi => ⟨x2.at (x1.at h rfl) rfl, by rw [List.length_map] at hi; rw [s.len]; exact hi⟩
  yld := fun F1 H1 i x H2 x1 x2 hy hi => by
    obtain ⟨rfl, k, e⟩ := hy
    obtain ⟨d', e', r⟩ := s.at e
    exact ⟨d', F1, by rw [List.getElem?_map, e']; rfl, Ext.refl, x2, fun a o h => .inl ⟨o, h⟩, fun _ _ h => h, r.mono x1⟩
  stop := fun F1 H1 i x1 x2 hi => ⟨x2.at (x1.at h rfl) rfl, by rw [List.length_map] at hi; rw [s.len]; exact hi⟩
theorem iti_ok {d : Addr} {o : Obj} {kvs : List (Key × V)} {l : List (Key × D)} (h : F d = some (.frz o (.dK kvs))) (s : RpK n F l kvs) : ItOk n (Iti d o kvs) F (itemsD l) where
  go := fun F1 H1 i x1 x2 hi => ⟨x2.at (x1.at h rfl) rfl, by rw [itemsD, List.length_map] at hi; rw [s.len]; exact hi⟩
  yld := fun F1 H1 i x H2 x1 x2 hy hi => by
    obtain ⟨T, k, v, e, rfl, hT, rfl⟩ := hy
    obtain ⟨d', e', r⟩ := s.at e
    have y := Ext.new (n := n) (o := .tup [kV k, v]) (x2.free hT)
    refine ⟨.tup [keyD k, d'], upd F1 T (.tup [kV k, v]), by rw [itemsD, List.getElem?_map, e']; rfl, y, fun a o ha => ?_, fun a o ha => ?_, fun a o ha => ?_, ⟨T, _, rfl, upd_same, _, _, rfl, keyD_rp, _, _, rfl, (r.mono x1).mono y, rfl⟩⟩
    · by_cases e : a = T
      · subst e; rw [upd_same] at ha ⊢; cases ha; exact ⟨_, rfl, .refl _⟩
      · rw [upd_ne e] at ha ⊢; exact x2 a o ha
    · by_cases e : a = T
      · subst e; exact .inr (.inl hT)
      · rw [upd_ne e] at ha; exact .inl ⟨o, ha⟩
    · rw [upd_ne (ne_of_none ha hT)]; exact ha
  stop := fun F1 H1 i x1 x2 hi => ⟨x2.at (x1.at h rfl) rfl, by rw [itemsD, List.length_map] at hi; rw [s.len]; exact hi⟩
end
def wKeys (f : DE) : DI := fun S R => f S fun d S' => match d with
  | .dK l => R (l.map fun p => keyD p.1) S'
  | .dT l => R (l.map fun p => keyT p.1) S'
  | _ => False
def wValues (f : DE) : DI := fun S R => f S fun d S' => onDK (fun l => R (l.map (·.2)) S') d
def wItems (f : DE) : DI := fun S R => f S fun d S' => onDK (fun l => R (itemsD l) S') d
section
variable {X : Cx} {z : Z} {tg e : Expr} {f : DE} {apos cpos : Pos}
theorem ji_keys (h : JE X z e f) : JI X z tg e (wKeys f) := JI.of (pi_keys h) fun F σ H S Rw r hf => tE.use r hf fun v H1 F1 S1 d x1 r1 h1 q => by
  cases d with
  | dK l =>
    obtain ⟨p, ob, kvs, rfl, hp, s1⟩ := h1
    exact ⟨p, ob, rfl, .inl ⟨kvs, r1.ext.at hp rfl, F1, S1, _, x1, r1, itk_ok hp s1, q⟩⟩
  | dT l =>
    obtain ⟨p, ob, kvs, rfl, hp, s1⟩ := h1
    exact ⟨p, ob, rfl, .inr ⟨kvs, r1.ext.at hp rfl, F1, S1, _, x1, r1, itkt_ok hp s1, q⟩⟩
  | _ => exact q.elim
theorem ji_values (h : JE X z e f) (hbase : attributeBase e "values" X.env (eval e X.env) = eval e X.env := by rfl) (hline : (apos.endLine == cpos.line) = true := by rfl) : JI X z tg (.Call (.Attribute e "values" apos) [] [] cpos) (wValues f) :=
  JI.of (pi_values h hbase hline) fun F σ H S Rw r hf => tE.use r hf fun v H1 F1 S1 d x1 r1 h1 q => by
    obtain ⟨l, rfl, q⟩ := onDK.get q
    obtain ⟨p, ob, kvs, rfl, hp, s1⟩ := h1
    exact ⟨p, ob, kvs, rfl, r1.ext.at hp rfl, F1, S1, _, x1, r1, itd_ok hp s1, q⟩
theorem ji_items {elts : List Expr} {kk : Nat} {tpos : Pos} (h : JE X z e f) (hbase : attributeBase e "items" X.env (eval e X.env) = eval e X.env := by rfl) (hline : (apos.endLine == cpos.line) = true := by rfl) : JI X z (.Tuple elts kk tpos) (.Call (.Attribute e "items" apos) [] [] cpos) (wItems f) :=
  JI.of (pi_items h hbase hline) fun F σ H S Rw r hf => tE.use r hf fun v H1 F1 S1 d x1 r1 h1 q => by
    obtain ⟨l, rfl, q⟩ := onDK.get q
    obtain ⟨p, ob, kvs, rfl, hp, s1⟩ := h1
    exact ⟨p, ob, kvs, rfl, r1.ext.at hp rfl, F1, S1, _, x1, r1, iti_ok hp s1, q⟩
end
end DL

namespace DL
open PySem L2 PySem.Spec PyProof.Rows PySem.SeqAt
abbrev kwF : List (Str × Value) := [(Str.ofString "strict", .bool false)]
section
variable {M : Model} {A : Around} {E : Value → Shared → Prop} {s : Shared} {env : Env}
theorem callWith_typeKw {pos : Pos} {T : String} {args : List (Bool × Sem Value)} {keywords : List (Option Str × Sem Value)} {Q : Value → Shared → Prop}
    (hplain : args.any (·.1) = false) (hkw : keywords.any (·.1.isNone) = false)
    (h : wpAny M A (evalArgs (.type T) true args keywords) (fun a s₁ => wpAny M A (call (.type T) a.pos a.kw) Q E s₁) E s) :
    wpAny M A (callWith pos (.type T) [] args keywords) Q E s := by
  unfold callWith
  refine wpAny_bind (wpAny_holding (wpAny_mono h (fun a s₁ h₁ => wpAny_bind (wpAny_standAt ?_)) fun _ _ x => x))
  simp only [hplain, hkw, Bool.or_false]
  refine wpAny_bind (wpAny_pure ?_)
  exact wpAny_bind (wpAny_mono h₁ (fun r s₂ hr => wpAny_bind (wpAny_holding (wpAny_point (wpAny_pure hr)))) fun _ _ x => x)
end
theorem typeCall_zipF (a b : Value) : checkTypeCall "zip" ⟨[a, b], kwF⟩ = pure () := by kernel_rfl
theorem newCall_zipF (a b : Value) : checkBuiltinCall "zip.__new__" ⟨[.type "zip", a, b], kwF⟩ = pure () := by kernel_rfl
theorem args_init_zipF (obj a b : Value) : argsOk "object.__init__" ⟨[obj, a, b], kwF⟩ := by unfold argsOk; kernel_rfl
theorem zip_newF (a b : Value) : Builtin.«zip.__new__» ⟨[.type "zip", a, b], kwF⟩ = Builtin.«zip.__new__» ⟨[.type "zip", a, b], []⟩ := by
  unfold Builtin.«zip.__new__»
  rfl
section
variable {prog : Program} {w : World} {A : Around} {E : Value → Shared → Prop} {s : Shared}
theorem call_zipF {l1 l2 : Addr} {xs ys : Array Value} {Q : Value → Shared → Prop} (hl1 : s.heap.IsList l1 xs) (hl2 : s.heap.IsList l2 ys)
    (h : ∀ h', IsZip h' (s.heap.objs.size + 4) (s.heap.objs.size + 2) (s.heap.objs.size + 3) .none → IsPair h' (s.heap.objs.size + 2) (.ref s.heap.objs.size) (.ref (s.heap.objs.size + 1)) →
      IsPair h' (s.heap.objs.size + 3) .none .none → h'.IsListIter s.heap.objs.size l1 0 → h'.IsListIter (s.heap.objs.size + 1) l2 0 →
      (∀ c o, s.heap.get? c = some o → h'.get? c = some o) → Q (.ref (s.heap.objs.size + 4)) { s with heap := h' }) :
    wpAny (model prog w) A (call (.type "zip") [.ref l1, .ref l2] kwF) Q E s := by
  have g := meets_zip_new l1 l2 xs ys
  rw [← zip_newF] at g
  refine callType_newKw F.called_zip (by decide) (typeCall_zipF _ _) (newCall_zipF _ _) (fun obj => args_init_zipF obj _ _) F.entry_zip_new g ⟨hl1, hl2, ?_⟩
  have z1 : (zipH1 s.heap l1).objs.size = s.heap.objs.size + 1 := Heap.size_push ..
  have z2 : (zipH2 s.heap l1 l2).objs.size = s.heap.objs.size + 2 := by rw [Heap.size_push, z1]
  have z3 : (zipH3 s.heap l1 l2).objs.size = s.heap.objs.size + 3 := by rw [Heap.size_push, z2]
  have z4 : (zipH4 s.heap l1 l2).objs.size = s.heap.objs.size + 4 := by rw [Heap.size_push, z3]
  have up : ∀ {h : Heap} {c : Addr} {o o' : Obj}, h.get? c = some o → (h.push o').get? c = some o := fun e => Heap.get?_push_of_some _ e
  have at_ : ∀ {h : Heap} {o : Obj} {k : Nat}, h.objs.size = k → o.isFreed = false → (h.push o).get? k = some o := fun {h o k} e f => by subst e; exact Heap.get?_push_size _ f
  have g5 := at_ (o := { cls := .type "zip", data := .fields #[.none, .bool false, .bool false, .ref (zipH2 s.heap l1 l2).objs.size, .ref (zipH3 s.heap l1 l2).objs.size] }) z4 rfl
  rw [show (Value.ref (zipH2 s.heap l1 l2).objs.size) = .ref (s.heap.objs.size + 2) by rw [z2], show (Value.ref (zipH3 s.heap l1 l2).objs.size) = .ref (s.heap.objs.size + 3) by rw [z3]] at g5
  show _ ∧ _
  rw [z4]
  have e5 : zipH5 s.heap l1 l2 = (zipH4 s.heap l1 l2).push { cls := .type "zip", data := .fields #[.none, .bool false, .bool false, .ref (s.heap.objs.size + 2), .ref (s.heap.objs.size + 3)] } := by
    show (zipH4 s.heap l1 l2).push _ = _
    rw [z2, z3]
  have e3 : zipH3 s.heap l1 l2 = (zipH2 s.heap l1 l2).push { cls := .type "tuple", data := .seq #[.ref s.heap.objs.size, .ref (s.heap.objs.size + 1)] } := by
    show (zipH2 s.heap l1 l2).push _ = _
    rw [z1]
  have g3 : (zipH3 s.heap l1 l2).get? (s.heap.objs.size + 2) = some { cls := .type "tuple", data := .seq #[.ref s.heap.objs.size, .ref (s.heap.objs.size + 1)] } := by
    rw [e3]; exact at_ z2 rfl
  have g4 : (zipH4 s.heap l1 l2).get? (s.heap.objs.size + 3) = some { cls := .type "tuple", data := .seq #[.none, .none] } := at_ z3 rfl
  have g2 : (zipH2 s.heap l1 l2).get? (s.heap.objs.size + 1) = some { cls := .type "list_iterator", data := .fields #[.ref l2, .int 0 0] } := at_ z1 rfl
  have g1 : (zipH1 s.heap l1).get? s.heap.objs.size = some { cls := .type "list_iterator", data := .fields #[.ref l1, .int 0 0] } := at_ rfl rfl
  rw [e5]
  exact ⟨⟨_, g5, rfl⟩, h _ g5 (up (up g3)) (up g4) ⟨_, up (up (up (up g1))), rfl, rfl⟩ ⟨_, up (up (up g2)), rfl, rfl⟩ fun c o e => up (up (up (up (up e))))⟩
end
theorem pi_zipF {X : Cx} {e e2 : Expr} {ta : TA} {p pos tpos kp cp : Pos} {c0 : Nat} {elts : List Expr} {kk : Nat} (hg : Gl X "zip") (hm : X.mg "zip" = none) (ha : PA X [e, e2] ta)
    (hs : backTo pos (starEach [e, e2] X.env) = (false, eval e X.env) :: backTo pos (starEach [e2] X.env)) (hpl : (backTo pos (starEach [e, e2] X.env)).any (·.1) = false) :
    PI X (.Tuple elts kk tpos) (.Call (.Name "zip" p) [e, e2] [⟨some "strict", .Constant (.bool false) c0 cp, kp⟩] pos) (iZip X.K ta) := by
  refine ⟨fun pins s σ H R I h => ?_⟩
  refine wpAny_Call_Name_kw (ld_blt I hg hm PyProof.Rows.boot_zip (callWith_typeKw hpl (by rfl) ?_))
  rw [hs]
  refine evalArgs_kwB (by rfl) ?_
  rw [← hs]
  refine thn (ha.run pos pins s σ H _ I h) fun us s1 ⟨vs, H1, I1, r1, q1⟩ => ?_
  refine kws_cons (wpAny_pure (kws_nil ?_))
  obtain ⟨a, b, xs, ys, ex, hqx, hqy, q⟩ := q1
  subst ex
  cases r1 with
  | cons r rr =>
    cases rr with
    | cons r' rr =>
      cases rr
      cases r
      cases r'
      obtain ⟨its, rv, p1, _⟩ := I1.list hqx
      obtain ⟨its2, rv2, p2, _⟩ := I1.list hqy
      show wpAny _ _ (call (.type "zip") [.ref a, .ref b] kwF) _ _ _
      refine call_zipF p1.isList p2.isList fun h' hz hTI hTO h1 h2 hk => wpAny_pyIter_zip hz ?_
      refine ⟨s1.heap.objs.size + 4, [s1.heap.objs.size + 4, s1.heap.objs.size + 2, s1.heap.objs.size + 3, s1.heap.objs.size, s1.heap.objs.size + 1], _, _, H1, rfl, I1.kept (t' := s1.toks) hk, turn_zip (PySem.W.ktu_apart s1.heap.objs.size a b p1.lt p2.lt), ⟨hz, hTI, ⟨_, _, hTO⟩, h1, h2⟩, fun c hcm => ?_, q⟩
      have hle : s1.heap.objs.size ≤ c := by
        have e' : c = s1.heap.objs.size + 4 ∨ c = s1.heap.objs.size + 2 ∨ c = s1.heap.objs.size + 3 ∨ c = s1.heap.objs.size ∨ c = s1.heap.objs.size + 1 := by simpa using hcm
        rcases e' with z | z | z | z | z <;> rw [z] <;> first | exact Nat.le_add_right _ _ | exact Nat.le_refl _
      exact I1.fpOk hle (I1.hok.fresh hle)
theorem ji_zipF {X : Cx} {z : Z} {a b : Expr} {f g : DE} {p pos tpos kp cp : Pos} {c0 kk : Nat} {elts : List Expr} (hz : z.n.K = X.K) (hg : Gl X "zip") (hm : X.mg "zip" = none) (h : JE X z a f) (k : JE X z b g)
    (hs : starEach [a, b] X.env = (false, eval a X.env) :: starEach [b] X.env := by rfl) (hs2 : starEach [b] X.env = [(false, eval b X.env)] := by rfl)
    (hs3 : backTo pos (starEach [a, b] X.env) = (false, eval a X.env) :: backTo pos (starEach [b] X.env) := by rfl) (hpl : (backTo pos (starEach [a, b] X.env)).any (·.1) = false := by rfl) :
    JI X z (.Tuple elts kk tpos) (.Call (.Name "zip" p) [a, b] [⟨some "strict", .Constant (.bool false) c0 cp, kp⟩] pos) (wZip f g) :=
  JI.of (pi_zipF hg hm (pa_cons h (pa_cons k pa_nil hs2) hs) hs3 hpl) fun F σ H S Rw r hf => tE.use r hf fun v H1 F1 S1 d x1 r1 h1 q => tE.use r1 q fun w H2 F2 S2 e x2 r2 h2 q2 => by
    obtain ⟨l, hd, q3⟩ := onLS.get q2
    obtain ⟨m, he, q4⟩ := onLS.get q3
    obtain ⟨c, xs, rfl, k1, s1⟩ := (h1.mono x2).list hd
    obtain ⟨c', ys, rfl, k2, s2⟩ := h2.list he
    exact ⟨c, c', xs, ys, rfl, r2.ext.sqL (hz ▸ k1), r2.ext.sqL (hz ▸ k2), F2, S2, _, x1.trans x2, r2, hz ▸ itz_ok k1 s1 k2 s2, q4⟩
def gU (n : Nat) (g : DGs) : DG := fun d S R => onL (fun l => l.length = n ∧ g l S R) d
theorem jg_unl {X : Cx} {z : Z} {pos : Pos} (hz : z.n.K = X.K) {es : List Expr} {k n : Nat} {g : DGs} (hc : X.calm = true) (h : JGs X z es g) (hn : (assignEach es X.env).length = n := by rfl) (hst : (assignEach es X.env).findIdx? (·.1) = none := by rfl) : JG X z (.Tuple es k pos) (gU n g) :=
  JG.of (pg_unl hc h hn hst) fun F σ H S d v R r hd q => by
    obtain ⟨l, rfl, hl, q1⟩ := onL.get q
    obtain ⟨a, xs, rfl, h1, s1⟩ := hd
    exact ⟨a, xs, rfl, SqL.of (r.ext.lst h1), by rw [s1.length]; exact hl, F, S, l, R, r, s1, q1, fun _ _ h => h⟩
end DL

namespace DL
open PySem L2 PySem.Spec PyProof.Rows PySem.SeqAt

theorem dset_any {X : Cx} {pins : List (Addr × Obj)} {σ : L2.St} {H H' : Hp} {s : Shared} {E : Value → Shared → Prop} {D : Addr} {y v : V} {u r : Value} {Q : Unit → Shared → Prop} (hu : X.A.units + 1 < cLine) (J : Inv X pins σ H s) (put : DPut H D y v H')
    (hy : RelV y u) (hv : RelV v r) (k : ∀ s', Inv X pins σ H' s' → Q () s') : wpAny (model X.prog X.w) X.A (dictSet D u r) Q E s := by
  rcases put with ⟨kvs, key, e, rfl, small, rfl⟩ | ⟨kvs, key, b, e, rfl, eb, small, rfl⟩
  · exact d_dictSet J e small hy hv k
  · obtain rfl : u = Value.ref b := hy
    have ⟨z, notSys, xs, pairs, held⟩ := dt_of J.hok e
    have few : xs.length ≤ sizeLine := (Paired.length pairs) ▸ z
    have fits : (putK kvs key v).length ≤ sizeLine := Nat.le_trans (length_putK kvs key v) small
    refine wpAny_dictSet_heap (hsz := few) (show X.A.units < cLine by omega) (key_of J.hok eb) held fun h' ⟨q, es, ep, g1, g2, g3, g4, _, g5⟩ same => k _ ?_
    refine d_write J (e ▸ True.intro) same ⟨q, g1⟩ ⟨fits, notSys, _, KT.keeps (pairs.put key eb hv) fun c ys ec => ?_, q, es, ep, g1, g2, g3, g4, g5⟩
    exact (upd_ne (ne_of ec e (fun w => nomatch w))).trans ec

/-- a clause's turn; what is done with an item that passes is left open -/
def clTurn (kx vx : Expr) (gens : List Comprehension) (sc : Scope) (pos : Pos) (dep : Nat) (t i : Expr) (ifs : List Expr) (it acc : Value) (env : Env) (tail : Sem Unit) : Sem Fin := do
  standAt i.pos
  match ← pyNext it with
  | none => pure (.done .next)
  | some item =>
    letOwnedTupleGo t it item
    assign t env item
    let mut good := true
    for c in ifs do
      if good then good ← isTrue c env (eval c env)
    if good then tail
    again (.compLoop (.DictComp kx vx gens sc pos) dep it acc env)
/-- a key and its value are put in -/
def dEmit (kx vx : Expr) (D : Addr) (env : Env) : Sem Unit := do
  let a ← eval kx env
  let b ← holding [a] (eval vx env)
  standAt { kx.pos with endLine := vx.pos.endLine, endCol := vx.pos.endCol }
  holding [a, b] (dictSet D a b)
/-- the first clause's turn where a second one stands -/
def clOuter (kx vx : Expr) (gens : List Comprehension) (sc : Scope) (pos : Pos) (t i : Expr) (ifs : List Expr) (i1 : Expr) (it acc : Value) (env : Env) : Sem Fin := do
  standAt i.pos
  match ← pyNext it with
  | none => pure (.done .next)
  | some item =>
    letOwnedTupleGo t it item
    assign t env item
    let mut good := true
    for c in ifs do
      if good then good ← isTrue c env (eval c env)
    if good then
      let x ← eval i1 env
      standAt i1.pos
      let x ← foldedSetIterable i1 env x
      let _ ← runOwn (.compStart (.DictComp kx vx gens sc pos) 1 (← holding [x] (pyIter x)) acc env) env
    again (.compLoop (.DictComp kx vx gens sc pos) 0 it acc env)
section
variable {kx vx t i t1 i1 : Expr} {ifs ifs1 : List Expr} {gens : List Comprehension} {sc : Scope} {pos : Pos} {it acc : Value} {D : Addr} {env : Env} {dep : Nat}
theorem cl_one : compTurn (.DictComp kx vx [⟨t, i, ifs, 0⟩] sc pos) 0 it (.ref D) env = clTurn kx vx [⟨t, i, ifs, 0⟩] sc pos 0 t i ifs it (.ref D) env (dEmit kx vx D env) := by rfl
theorem cl_two0 : compTurn (.DictComp kx vx [⟨t, i, ifs, 0⟩, ⟨t1, i1, ifs1, 0⟩] sc pos) 0 it acc env = clOuter kx vx [⟨t, i, ifs, 0⟩, ⟨t1, i1, ifs1, 0⟩] sc pos t i ifs i1 it acc env := by rfl
theorem cl_two1 : compTurn (.DictComp kx vx [⟨t, i, ifs, 0⟩, ⟨t1, i1, ifs1, 0⟩] sc pos) 1 it (.ref D) env = clTurn kx vx [⟨t, i, ifs, 0⟩, ⟨t1, i1, ifs1, 0⟩] sc pos 1 t1 i1 ifs1 it (.ref D) env (dEmit kx vx D env) := by rfl
variable {prog : Program} {w : World} {A : Around} {R : Result → Shared → Prop} {s : Shared}
/-- a clause's loop, nothing raised within -/
theorem cl_loop {tail : Sem Unit} (eqn : ∀ it', it' = it → compTurn (.DictComp kx vx gens sc pos) dep it' acc env = clTurn kx vx gens sc pos dep t i ifs it' acc env tail) (I : Nat → Shared → Prop)
    (turn : ∀ n s, I n s → wpAny (model prog w) A (pyNext it) (fun r s1 => match r with
      | none => R (.ok .next) s1
      | some item => wpAny (model prog w) A (letOwnedTupleGo t it item) (fun _ s2 => wpAny (model prog w) A (assign t env item) (fun _ s3 =>
          wpAny (model prog w) A (forIn ifs true fun c r => if r = true then do let ok ← isTrue c env (eval c env); pure (ForInStep.yield ok) else pure (ForInStep.yield r)) (fun b s4 =>
            if b = true then wpAny (model prog w) A tail (fun _ s5 => ∃ m, m < n ∧ I m s5) (fun _ _ => False) s4 else ∃ m, m < n ∧ I m s4) (fun _ _ => False) s3) (fun _ _ => False) s2) (fun _ _ => False) s1) (fun _ _ => False) s)
    (n : Nat) (h : I n s) : codeAny (model prog w) A (.compLoop (.DictComp kx vx gens sc pos) dep it acc env) R s := by
  refine codeAny_loop rfl I (fun n s hI => ?_) n h
  show wpAny _ A (Sem.onRaise (compTurn (.DictComp kx vx gens sc pos) dep it acc env) _) _ _ s
  refine wpAny_noted ?_
  rw [eqn it rfl]
  unfold clTurn
  refine wpAny_bind (wpAny_standAt (wpAny_bind (thnF (turn n s hI) fun r s1 h1 => ?_)))
  rcases r with _ | item
  · exact wpAny_pure h1
  refine wpAny_bind (thnF h1 fun _ s2 h2 => wpAny_bind (thnF h2 fun _ s3 h3 => wpAny_bind (thnF h3 fun b s4 h4 => ?_)))
  cases b with
  | false => exact wpAny_pure ⟨rfl, h4⟩
  | true => exact wpAny_bind (thnF h4 fun _ s5 h5 => wpAny_pure ⟨rfl, h5⟩)
theorem emit_ok (h : wpAny (model prog w) A (eval kx env) (fun a s1 => wpAny (model prog w) A (eval vx env) (fun b s2 => wpAny (model prog w) A (dictSet D a b) (fun _ s3 => R (.ok .next) s3) (fun _ _ => False) s2) (fun _ _ => False) s1) (fun _ _ => False) s) :
    wpAny (model prog w) A (dEmit kx vx D env) (fun _ s3 => R (.ok .next) s3) (fun _ _ => False) s := by
  unfold dEmit
  exact wpAny_bind (thnF h fun a s1 h1 => wpAny_bind (wpAny_holding (thnF h1 fun b s2 h2 => wpAny_bind (wpAny_standAt (wpAny_holding (thnF h2 fun _ s3 h3 => h3))))))
/-- the first clause's loop where a second one stands -/
theorem cl_outer (eqn : compTurn (.DictComp kx vx gens sc pos) 0 it acc env = clOuter kx vx gens sc pos t i ifs i1 it acc env) (hs : ∀ x, foldedSetIterable i1 env x = pure x) (I : Nat → Shared → Prop)
    (turn : ∀ n s, I n s → wpAny (model prog w) A (pyNext it) (fun r s1 => match r with
      | none => R (.ok .next) s1
      | some item => wpAny (model prog w) A (letOwnedTupleGo t it item) (fun _ s2 => wpAny (model prog w) A (assign t env item) (fun _ s3 =>
          wpAny (model prog w) A (forIn ifs true fun c r => if r = true then do let ok ← isTrue c env (eval c env); pure (ForInStep.yield ok) else pure (ForInStep.yield r)) (fun b s4 =>
            if b = true then wpAny (model prog w) A (eval i1 env) (fun x s5 => wpAny (model prog w) A (pyIter x) (fun it1 s6 =>
              codeAny (model prog w) A (.compStart (.DictComp kx vx gens sc pos) 1 it1 acc env) (fun r s' => match r with
                | .ok _ => ∃ m, m < n ∧ I m s'
                | .error _ => False) s6) (fun _ _ => False) s5) (fun _ _ => False) s4 else ∃ m, m < n ∧ I m s4) (fun _ _ => False) s3) (fun _ _ => False) s2) (fun _ _ => False) s1) (fun _ _ => False) s)
    (n : Nat) (h : I n s) : codeAny (model prog w) A (.compLoop (.DictComp kx vx gens sc pos) 0 it acc env) R s := by
  refine codeAny_loop rfl I (fun n s hI => ?_) n h
  show wpAny _ A (Sem.onRaise (compTurn (.DictComp kx vx gens sc pos) 0 it acc env) _) _ _ s
  refine wpAny_noted ?_
  rw [eqn]
  unfold clOuter
  refine wpAny_bind (wpAny_standAt (wpAny_bind (thnF (turn n s hI) fun r s1 h1 => ?_)))
  rcases r with _ | item
  · exact wpAny_pure h1
  refine wpAny_bind (thnF h1 fun _ s2 h2 => wpAny_bind (thnF h2 fun _ s3 h3 => wpAny_bind (thnF h3 fun b s4 h4 => ?_)))
  cases b with
  | false => exact wpAny_pure ⟨rfl, h4⟩
  | true =>
    refine wpAny_bind (thnF h4 fun x s5 h5 => wpAny_bind (wpAny_standAt (wpAny_bind (wpAny_of_eq (hs x) (wpAny_bind (wpAny_holding (thnF h5 fun it1 s6 h6 => wpAny_bind (wpAny_runOwn ?_))))))))
    rw [Around.mark_none]
    refine codeAny_mono h6 fun r s' hr => ?_
    cases r with
    | ok f =>
      first
        | exact wpAny_pure ⟨rfl, hr⟩
        | exact wpAny_bind (wpAny_pure (wpAny_pure ⟨rfl, hr⟩))
    | error e => exact hr.elim
theorem start_one (h0 : codeAny (model prog w) A (.compLoop (.DictComp kx vx [⟨t, i, ifs, 0⟩, ⟨t1, i1, ifs1, 0⟩] sc pos) 1 it acc env) R s)
    (h : wpAny (model prog w) A (pyIter it) (fun it' s' => codeAny (model prog w) A (.compLoop (.DictComp kx vx [⟨t, i, ifs, 0⟩, ⟨t1, i1, ifs1, 0⟩] sc pos) 1 it' acc env) R s') (fun _ _ => False) s) :
    codeAny (model prog w) A (.compStart (.DictComp kx vx [⟨t, i, ifs, 0⟩, ⟨t1, i1, ifs1, 0⟩] sc pos) 1 it acc env) R s := by
  refine codeAny_of_tree ?_
  show wpAny _ _ (Sem.onRaise (compStart (.DictComp kx vx [⟨t, i, ifs, 0⟩, ⟨t1, i1, ifs1, 0⟩] sc pos) 1 it acc env) _) _ _ s
  refine wpAny_notedAt ?_
  unfold compStart
  show wpAny _ _ (ask >>= _) _ _ s
  refine wpAny_bind (wpAny_askSetting (wpAny_ite ?_))
  split
  · first
      | exact wpAny_pure ⟨rfl, h0⟩
      | exact wpAny_bind (wpAny_pure (wpAny_pure ⟨rfl, h0⟩))
  · first
      | exact wpAny_bind (wpAny_rule (wpAny_bind (wpAny_standAt (wpAny_bind (thnF h fun it' s' h' => wpAny_pure ⟨rfl, h'⟩)))))
      | (refine wpAny_bind (wpAny_rule ?_); show wpAny _ _ (standAt i1.pos >>= _) _ _ s; exact wpAny_bind (wpAny_standAt (wpAny_bind (thnF h fun it' s' h' => wpAny_pure ⟨rfl, h'⟩))))
end
end DL

namespace DL
open PySem L2 PySem.Spec PyProof.Rows PySem.SeqAt

/-- what the use of an item asks: the slots, the heap, where the next turn begins -/
abbrev TL := L2.St → Hp → (Hp → Prop) → Prop
/-- a loop over J from H0 on; Qe behind it -/
def LpW (J : It) (g : TG) (tt : TT) (tl : TL) (vs : List Nat) (σ : L2.St) (H0 : Hp) (Qe : Hp → Prop) : Prop :=
  ∃ W : Nat → Nat → Hp → Prop, (∃ m, W 0 m H0) ∧ ∀ i m H, W i m H → (J.stop i H ∧ Qe H) ∨ (J.go i H ∧ ∃ Nx : Hp → Prop, (∀ H', Nx H' → ∃ m', m' < m ∧ W (i + 1) m' H') ∧
    ∀ x H', J.yld i H x H' → g x (wipe σ vs) H' fun σ2 H2 => wipe σ2 vs = wipe σ vs ∧ tt σ2 H2 fun b H3 => if b = true then tl σ2 H3 Nx else Nx H3)
def tlPut (tk tv : TE) (D : Addr) : TL := fun σ H Nx => tk σ H fun y H1 => tv σ H1 fun z H2 => ∃ H3, DPut H2 D y z H3 ∧ Nx H3
def tlIn (wi : TI) (g : TG) (tt : TT) (tl : TL) (vs : List Nat) : TL := fun σ H Nx => wi σ H fun J H1 => LpW J g tt tl vs σ H1 Nx
/-- {k: v for target in iter if ..}; o0: the empty dict -/
def tDc1 (o0 : HO) (wi : TI) (g : TG) (tt : TT) (tk tv : TE) (vs : List Nat) : TE := fun σ H Q => wi σ H fun J H1 => ∀ D, H1 D = none → LpW J g tt (tlPut tk tv D) vs σ (upd H1 D o0) fun H2 => Q (.ref D) H2
def tDc2 (o0 : HO) (wi : TI) (g : TG) (tt : TT) (wi1 : TI) (g1 : TG) (tt1 : TT) (tk tv : TE) (vs vs1 : List Nat) : TE := fun σ H Q => wi σ H fun J H1 => ∀ D, H1 D = none → LpW J g tt (tlIn wi1 g1 tt1 (tlPut tk tv D) vs1) vs σ (upd H1 D o0) fun H2 => Q (.ref D) H2
section
variable {X : Cx} {s3 : Shared} {H3 : Hp} {scope : Scope} {ce : Env} {fpB : List Addr}
variable {kx vx tg iter tg1 iter1 : Expr} {ifs ifs1 : List Expr} {gens : List Comprehension} {pos : Pos} {D it : Addr} {dep : Nat} {g g1 : TG} {tt tt1 : TT} {tk tv : TE} {vs vs1 : List Nat} {σ : L2.St} {H0 : Hp} {J : It} {fp : List Addr} {tn : Nat → Heap → Prop} {pins : List (Addr × Obj)} {s : Shared} {Qe : Hp → Prop} {wi1 : TI}
/-- behind a loop: the slots as they were known ahead of it -/
abbrev LpEnd (X : Cx) (pins : List (Addr × Obj)) (σ : L2.St) (Qe : Hp → Prop) : Result → Shared → Prop := fun r s' => match r with
  | .ok _ => ∃ H', Inv X pins σ H' s' ∧ Qe H'
  | .error _ => False
theorem lp_emit (hu : X.A.units + 1 < cLine) (hc : X.calm = true) (T : Turn X.prog X.w X.K tg J fp it tn) (I0 : Inv (X.blk s3 H3 scope ce fpB) pins (wipe σ vs) H0 s) (st0 : tn 0 s.heap) (n0 : ∀ b ∈ fp, H0 b = none)
    (stat : ∀ {σ' : L2.St} {H' : Hp} {s' : Shared}, Inv (X.blk s3 H3 scope ce fpB) pins σ' H' s' → (∀ b ∈ fp, H' b = none) → ∀ b ∈ fp, FpOk (X.blk s3 H3 scope ce fpB) pins H' b)
    (pg : PG (X.blk s3 H3 scope ce fpB) tg g) (pt : PTs (X.blk s3 H3 scope ce fpB) ifs tt) (pk : PE (X.blk s3 H3 scope ce fpB) kx tk) (pv : PE (X.blk s3 H3 scope ce fpB) vx tv) (h : LpW J g tt (tlPut tk tv D) vs σ H0 Qe)
    (eqn : ∀ it', compTurn (.DictComp kx vx gens scope pos) dep it' (.ref D) ce = clTurn kx vx gens scope pos dep tg iter ifs it' (.ref D) ce (dEmit kx vx D ce)) :
    codeAny (model X.prog X.w) X.A (.compLoop (.DictComp kx vx gens scope pos) dep (.ref it) (.ref D) ce) (LpEnd (X.blk s3 H3 scope ce fpB) pins (wipe σ vs) Qe) s := by
  obtain ⟨W, ⟨m0, w0⟩, turn⟩ := h
  refine cl_loop (fun it' _ => eqn it') (fun n s' => ∃ i H', Inv (X.blk s3 H3 scope ce fpB) pins (wipe σ vs) H' s' ∧ tn i s'.heap ∧ (∀ b ∈ fp, H' b = none) ∧ W i n H') ?_ m0 ⟨0, H0, I0, st0, n0, w0⟩
  rintro n s1 ⟨i, H1, I1, st1, n1, w1⟩
  rcases turn i n H1 w1 with ⟨stop, qe⟩ | ⟨go, Nx, hNx, step⟩
  · refine thnF (T.done (X.blk s3 H3 scope ce fpB) rfl rfl rfl hc i pins s1 _ H1 _ I1 (stat I1 n1) st1 stop) fun r s2 ⟨hr, I2⟩ => ?_
    subst hr
    exact ⟨H1, I2, qe⟩
  · refine thnF (T.item (X.blk s3 H3 scope ce fpB) rfl rfl rfl hc i pins s1 _ H1 _ I1 (stat I1 n1) st1 go) fun r s2 ⟨u, hr, h2⟩ => ?_
    subst hr
    refine thnF h2 fun _ s4 ⟨x, H4, I4, rx, yx, st4, n4⟩ => ?_
    have P4 := I4.pinned (stat I4 n4) (T.obj _ _ st4)
    refine thnF (pg.run _ s4 _ H4 x u _ P4 rx (step x H4 yx)) fun _ s5 ⟨σ5, H5, I5, hw, q5⟩ => thnF (pt.run _ s5 σ5 H5 _ I5 q5) fun b s6 ⟨H6, I6, q6⟩ => ?_
    have onward : ∀ {s' : Shared} {H' : Hp}, Inv (X.blk s3 H3 scope ce fpB) (pins ++ pinsAt fp s4.heap) σ5 H' s' → Nx H' → ∃ m, m < n ∧ ∃ i H', Inv (X.blk s3 H3 scope ce fpB) pins (wipe σ vs) H' s' ∧ tn i s'.heap ∧ (∀ b ∈ fp, H' b = none) ∧ W i m H' := fun {s' H'} I' nx => by
      have ⟨m', less, w'⟩ := hNx H' nx
      have held : ∀ b ∈ fp, ∀ o, s4.heap.get? b = some o → s'.heap.get? b = some o ∧ H' b = none := fun b hb o e =>
        have z := I'.pin (b, o) (List.mem_append_right _ (List.mem_append_right _ (mem_pinsAt hb e)))
        ⟨z.1, z.2.1⟩
      refine ⟨m', less, i + 1, H', I'.unpinned.weak (hw ▸ wipe_length _ _) (fun j v e => (wipe_some (hw ▸ e)).1), T.keep _ _ _ st4 fun b hb o e => (held b hb o e).1, fun b hb => ?_, w'⟩
      have ⟨o, e, _⟩ := T.obj _ _ st4 b hb
      exact (held b hb o e).2
    cases b with
    | false => exact onward I6 q6
    | true =>
      rw [if_pos rfl]
      refine emit_ok (R := fun _ s' => ∃ m, m < n ∧ ∃ i H', Inv (X.blk s3 H3 scope ce fpB) pins (wipe σ vs) H' s' ∧ tn i s'.heap ∧ (∀ b ∈ fp, H' b = none) ∧ W i m H') ?_
      exact thnF (pk.run _ s6 σ5 H6 _ I6 q6) fun a s7 ⟨y, H7, I7, ry, q7⟩ => thnF (pv.run _ s7 σ5 H7 _ I7 q7) fun b s8 ⟨z, H8, I8, rz, H9, put, nx⟩ => dset_any (X := X.blk s3 H3 scope ce fpB) hu I8 put ry rz fun s9 I9 => onward I9 nx
theorem lp_outer (hu : X.A.units + 1 < cLine) (hc : X.calm = true) (T : Turn X.prog X.w X.K tg J fp it tn) (I0 : Inv (X.blk s3 H3 scope ce fpB) pins (wipe σ vs) H0 s) (st0 : tn 0 s.heap) (n0 : ∀ b ∈ fp, H0 b = none) (sub : ∀ i ∈ vs1, i ∈ vs)
    (stat : ∀ {σ' : L2.St} {H' : Hp} {s' : Shared}, Inv (X.blk s3 H3 scope ce fpB) pins σ' H' s' → (∀ b ∈ fp, H' b = none) → ∀ b ∈ fp, FpOk (X.blk s3 H3 scope ce fpB) pins H' b)
    (pg : PG (X.blk s3 H3 scope ce fpB) tg g) (pt : PTs (X.blk s3 H3 scope ce fpB) ifs tt) (pi1 : PI (X.blk s3 H3 scope ce fpB) tg1 iter1 wi1) (pg1 : PG (X.blk s3 H3 scope ce fpB) tg1 g1) (pt1 : PTs (X.blk s3 H3 scope ce fpB) ifs1 tt1) (pk : PE (X.blk s3 H3 scope ce fpB) kx tk) (pv : PE (X.blk s3 H3 scope ce fpB) vx tv)
    (hs1 : ∀ x, foldedSetIterable iter1 ce x = pure x) (h : LpW J g tt (tlIn wi1 g1 tt1 (tlPut tk tv D) vs1) vs σ H0 Qe) :
    codeAny (model X.prog X.w) X.A (.compLoop (.DictComp kx vx [⟨tg, iter, ifs, 0⟩, ⟨tg1, iter1, ifs1, 0⟩] scope pos) 0 (.ref it) (.ref D) ce) (LpEnd (X.blk s3 H3 scope ce fpB) pins (wipe σ vs) Qe) s := by
  obtain ⟨W, ⟨m0, w0⟩, turn⟩ := h
  refine cl_outer cl_two0 hs1 (fun n s' => ∃ i H', Inv (X.blk s3 H3 scope ce fpB) pins (wipe σ vs) H' s' ∧ tn i s'.heap ∧ (∀ b ∈ fp, H' b = none) ∧ W i n H') ?_ m0 ⟨0, H0, I0, st0, n0, w0⟩
  rintro n s1 ⟨i, H1, I1, st1, n1, w1⟩
  rcases turn i n H1 w1 with ⟨stop, qe⟩ | ⟨go, Nx, hNx, step⟩
  · refine thnF (T.done (X.blk s3 H3 scope ce fpB) rfl rfl rfl hc i pins s1 _ H1 _ I1 (stat I1 n1) st1 stop) fun r s2 ⟨hr, I2⟩ => ?_
    subst hr
    exact ⟨H1, I2, qe⟩
  · refine thnF (T.item (X.blk s3 H3 scope ce fpB) rfl rfl rfl hc i pins s1 _ H1 _ I1 (stat I1 n1) st1 go) fun r s2 ⟨u, hr, h2⟩ => ?_
    subst hr
    refine thnF h2 fun _ s4 ⟨x, H4, I4, rx, yx, st4, n4⟩ => ?_
    have P4 := I4.pinned (stat I4 n4) (T.obj _ _ st4)
    refine thnF (pg.run _ s4 _ H4 x u _ P4 rx (step x H4 yx)) fun _ s5 ⟨σ5, H5, I5, hw, q5⟩ => thnF (pt.run _ s5 σ5 H5 _ I5 q5) fun b s6 ⟨H6, I6, q6⟩ => ?_
    have onward : ∀ {σ' : L2.St} {s' : Shared} {H' : Hp}, Inv (X.blk s3 H3 scope ce fpB) (pins ++ pinsAt fp s4.heap) σ' H' s' → (wipe σ vs).length = σ'.length → (∀ (j : Nat) v, (wipe σ vs)[j]? = some (some v) → σ'[j]? = some (some v)) → Nx H' →
        ∃ m, m < n ∧ ∃ i H', Inv (X.blk s3 H3 scope ce fpB) pins (wipe σ vs) H' s' ∧ tn i s'.heap ∧ (∀ b ∈ fp, H' b = none) ∧ W i m H' := fun {σ' s' H'} I' hl hk nx => by
      have ⟨m', less, w'⟩ := hNx H' nx
      have held : ∀ b ∈ fp, ∀ o, s4.heap.get? b = some o → s'.heap.get? b = some o ∧ H' b = none := fun b hb o e =>
        have z := I'.pin (b, o) (List.mem_append_right _ (List.mem_append_right _ (mem_pinsAt hb e)))
        ⟨z.1, z.2.1⟩
      refine ⟨m', less, i + 1, H', I'.unpinned.weak hl hk, T.keep _ _ _ st4 fun b hb o e => (held b hb o e).1, fun b hb => ?_, w'⟩
      have ⟨o, e, _⟩ := T.obj _ _ st4 b hb
      exact (held b hb o e).2
    have hl5 : (wipe σ vs).length = σ5.length := hw ▸ wipe_length _ _
    have hk5 : ∀ (j : Nat) v, (wipe σ vs)[j]? = some (some v) → σ5[j]? = some (some v) := fun j v e => (wipe_some (hw ▸ e)).1
    cases b with
    | false => exact onward I6 hl5 hk5 q6
    | true =>
      rw [if_pos rfl]
      have q6 : wi1 σ5 H6 fun J1 H7 => LpW J1 g1 tt1 (tlPut tk tv D) vs1 σ5 H7 Nx := q6
      refine thnF (pi1.run _ s6 σ5 H6 _ I6 q6) fun xv s7 hx => thnF hx fun itv s8 ⟨it1, fp1, tn1, J1, H8, e1, I8, T1, st8, f8, lp⟩ => ?_
      subst e1
      have inner := lp_emit (kx := kx) (vx := vx) (iter := iter1) (gens := [⟨tg, iter, ifs, 0⟩, ⟨tg1, iter1, ifs1, 0⟩]) (pos := pos) (dep := 1) (s := s8) hu hc T1 (I8.weak (wipe_length _ _) fun j v e => (wipe_some e).1) st8 (fun b hb => (f8 b hb).1) (fun _ hn b hb => ⟨hn b hb, (f8 b hb).2⟩) pg1 pt1 pk pv lp fun _ => cl_two1
      have inner2 : codeAny (model X.prog X.w) X.A (.compLoop (.DictComp kx vx [⟨tg, iter, ifs, 0⟩, ⟨tg1, iter1, ifs1, 0⟩] scope pos) 1 (.ref it1) (.ref D) ce) (fun r s' => match r with
          | .ok _ => ∃ m, m < n ∧ ∃ i H', Inv (X.blk s3 H3 scope ce fpB) pins (wipe σ vs) H' s' ∧ tn i s'.heap ∧ (∀ b ∈ fp, H' b = none) ∧ W i m H'
          | .error _ => False) s8 := codeAny_mono inner fun r s' hr => by
        cases r with
        | error e => exact hr.elim
        | ok f =>
          obtain ⟨H', I', nx⟩ := hr
          refine onward I' (hl5.trans (wipe_length σ5 vs1).symm) (fun j v e => ?_) nx
          have e5 : (wipe σ5 vs)[j]? = some (some v) := hw ▸ e
          have ⟨e1, e2⟩ := wipe_some e5
          rw [wipe_out fun z => e2 (sub j z)]
          exact e1
      exact start_one inner2 (T1.self X.A 0 _ _ _ st8 inner2)
/-- the head of a dict comprehension: what is walked, the new dict, the block; and back -/
theorem dc_head {own : List (Str × Nat)} {H : Hp} {Q : VK} {wi : TI} {more : List Comprehension} {o0 : HO} {X : Cx} {s : Shared} {loop : It → L2.St → Hp → Addr → (Hp → Prop) → Prop} (ho : o0 = .dK [] ∨ o0 = .dT []) (hN : X.N.Nodup) (I : Inv X pins σ H s) (hi : PI X tg iter wi) (ok : BlkOk X.N X.env.scope scope own)
    (hs : ∀ x, foldedSetIterable iter X.env x = pure x) (h : wi σ H fun J H1 => ∀ D, H1 D = none → loop J σ (upd H1 D o0) D fun H2 => Q (.ref D) H2)
    (run : ∀ (s3 s4 : Shared) (H3 : Hp) (C : Addr) (cl : List (Str × Addr)) (fp : List Addr) (J : It) (it D : Addr) (tn : Nat → Heap → Prop) (Qe : Hp → Prop), Turn X.prog X.w X.K tg J fp it tn → loop J σ H3 D Qe → Inv (X.blk s3 H3 scope (compEnvC scope cl C X.env) fp) [] (wipe σ (own.map (·.2))) H3 s4 → tn 0 s4.heap → (∀ b ∈ fp, H3 b = none) →
      (∀ {σ' : L2.St} {H' : Hp} {s' : Shared}, Inv (X.blk s3 H3 scope (compEnvC scope cl C X.env) fp) [] σ' H' s' → (∀ b ∈ fp, H' b = none) → ∀ b ∈ fp, FpOk (X.blk s3 H3 scope (compEnvC scope cl C X.env) fp) [] H' b) →
      codeAny (model X.prog X.w) X.A (.compLoop (.DictComp kx vx (⟨tg, iter, ifs, 0⟩ :: more) scope pos) 0 (.ref it) (.ref D) (compEnvC scope cl C X.env)) (LpEnd (X.blk s3 H3 scope (compEnvC scope cl C X.env) fp) [] (wipe σ (own.map (·.2))) Qe) s4) :
    wpAny (model X.prog X.w) X.A (eval (.DictComp kx vx (⟨tg, iter, ifs, 0⟩ :: more) scope pos) X.env) (EP X pins σ Q) X.xe s := by
  rw [arm_eval_DictComp]
  have toCell : ∀ y ∈ scope.names, y.2 = .free → ∃ c, X.env.cells.lookup y.1 = some c := fun y hy e => (ok.free y hy e).elim (fun k => I.ok.has _ (.inl k)) fun k => I.ok.has _ (.inr k)
  refine wpAny_comprehension_free (use := none) rfl hs (closure_ok toCell) ok.kind (fun y hy e => (ok.uniq y hy).trans (congrArg some e)) (thn (hi.run pins s σ H _ I h) fun xv s1 hx => thn hx fun itv s2 ⟨it, fp, tn, J, H2, e, I2, T, st2, f2, q⟩ => ?_)
  subst e
  refine wpAny_newObj_type (newEnv_comp ?_)
  have nD : H2 s2.heap.objs.size = none := I2.hok.fresh (Nat.le_refl _)
  have lp := q s2.heap.objs.size nD
  have I3 : Inv X pins σ (upd H2 s2.heap.objs.size o0) { s2 with heap := s2.heap.push { cls := .type "dict", data := .dict #[] } } := by
    refine I2.laid (t' := s2.toks) (fun b o e => Heap.get?_push_of_some _ e) (Nat.le_refl _) ?_
    rcases ho with rfl | rfl
    · exact dk_empty s2.heap I2.big
    · exact dt_empty s2.heap I2.big
  have below : ∀ b ∈ fp, b < s2.heap.objs.size := fun b hb => have ⟨o, e, _⟩ := T.obj _ _ st2 b hb; Heap.lt_size e
  have f3 : ∀ b ∈ fp, FpOk X pins (upd H2 s2.heap.objs.size o0) b ∧ b < (s2.heap.push { cls := .type "dict", data := .dict #[] }).objs.size := fun b hb =>
    ⟨⟨(upd_ne (Nat.ne_of_lt (below b hb))).trans (f2 b hb).1, (f2 b hb).2⟩, by rw [Heap.size_push]; exact Nat.lt_succ_of_lt (below b hb)⟩
  have st3 : tn 0 (s2.heap.push { cls := .type "dict", data := .dict #[] }) := T.keep _ _ _ st2 fun b _ o e => Heap.get?_push_of_some _ e
  generalize s2.heap.objs.size = D at nD lp I3 f3 ⊢
  generalize hs3 : ({ s2 with heap := s2.heap.push { cls := .type "dict", data := .dict #[] } } : Shared) = s3 at I3 ⊢
  have h3 : s2.heap.push { cls := .type "dict", data := .dict #[] } = s3.heap := by rw [← hs3]
  rw [h3] at f3 st3
  clear hs3 h3
  have I4 := block_start I3 ok hN f3
  show codeAny _ _ (.compStart (.DictComp kx vx (⟨tg, iter, ifs, 0⟩ :: more) scope pos) 0 (.ref it) (.ref D) (compEnvC scope (cellsFrom (s3.heap.objs.size + 1) scope.names (cloFrom X.env.cells scope.names [])) s3.heap.objs.size X.env)) (compPost (model X.prog X.w) X.A X.xe none _ (.ref D) s3.heap.objs.size) { s3 with heap := pushCells (s3.heap.push { cls := .type "dict", data := .dict #[] }) scope.names }
  generalize cellsFrom (s3.heap.objs.size + 1) scope.names (cloFrom X.env.cells scope.names []) = cl at I4 ⊢
  have st4 : tn 0 (pushCells (s3.heap.push { cls := .type "dict", data := .dict #[] }) scope.names) := T.keep _ _ _ st3 fun b _ o e => pushCells_keeps _ _ _ _ (Heap.get?_push_of_some _ e)
  have main := run s3 { s3 with heap := pushCells (s3.heap.push { cls := .type "dict", data := .dict #[] }) scope.names } (upd H2 D o0) s3.heap.objs.size cl fp J it D tn _ T lp I4 st4 (fun b hb => (f3 b hb).1.1) fun {σ' H' s'} I' hn b hb =>
    ⟨hn b hb, (I'.ok.exf b hb).1, I'.ok.exfs b hb, .inl hb, fun x c e => (I'.ok.exf b hb).2 x c e, fun p hp => absurd (show p ∈ ([] : List (Addr × Obj)) ++ [] from hp) (by simp)⟩
  have post : codeAny (model X.prog X.w) X.A (.compLoop (.DictComp kx vx (⟨tg, iter, ifs, 0⟩ :: more) scope pos) 0 (.ref it) (.ref D) (compEnvC scope cl s3.heap.objs.size X.env)) (compPost (model X.prog X.w) X.A X.xe none (EP X pins σ Q) (.ref D) s3.heap.objs.size) { s3 with heap := pushCells (s3.heap.push { cls := .type "dict", data := .dict #[] }) scope.names } := by
    refine codeAny_mono main fun r s6 hr => ?_
    cases r with
    | error e => exact hr.elim
    | ok f =>
      obtain ⟨H', I6, qe⟩ := hr
      have I7 : Inv X pins σ H' s6 := I3.call' (ch := fp) I6.os I6.base I6.hok I6.bare fun b hb => ⟨(f3 b hb).1.2.2.2.1, (f3 b hb).1.2.1, (f3 b hb).1.2.2.2.2.1, (f3 b hb).1.2.2.2.2.2⟩
      have nC : H' s3.heap.objs.size = none := I6.free
      have ⟨m, hn, _⟩ := I6.loc
      have ⟨g0, g1, g2, g3, g4, g5⟩ := I3.fpOk (Nat.le_refl _) nC
      exact ⟨m, hn, fun h2 sb => ⟨.ref D, H', I7.turned (t' := s6.toks) (fun b o hb e => (sb.2 b hb).trans e) g0 g1 g3 g4 g5, rfl, qe⟩⟩
  exact codeAny_compStart_dict post (T.self X.A 0 _ _ _ st4 post)
end
section
variable {X : Cx} {kx vx tg iter tg1 iter1 : Expr} {ifs ifs1 : List Expr} {scope : Scope} {own : List (Str × Nat)} {pos : Pos} {wi wi1 : TI} {g g1 : TG} {tt tt1 : TT} {tk tv : TE} {o0 : HO} {vs1 : List Nat}
theorem pe_dc1 (ho : o0 = .dK [] ∨ o0 = .dT []) (hu : X.A.units + 1 < cLine) (hc : X.calm = true) (hN : X.N.Nodup) (hi : PI X tg iter wi) (ok : BlkOk X.N X.env.scope scope own)
    (hg : ∀ (s : Shared) (H : Hp) (C : Addr) (cl : List (Str × Addr)) (fp : List Addr), PG (X.blk s H scope (compEnvC scope cl C X.env) fp) tg g) (ht : ∀ (s : Shared) (H : Hp) (C : Addr) (cl : List (Str × Addr)) (fp : List Addr), PTs (X.blk s H scope (compEnvC scope cl C X.env) fp) ifs tt)
    (hk : ∀ (s : Shared) (H : Hp) (C : Addr) (cl : List (Str × Addr)) (fp : List Addr), PE (X.blk s H scope (compEnvC scope cl C X.env) fp) kx tk) (hv : ∀ (s : Shared) (H : Hp) (C : Addr) (cl : List (Str × Addr)) (fp : List Addr), PE (X.blk s H scope (compEnvC scope cl C X.env) fp) vx tv)
    (hs : ∀ x, foldedSetIterable iter X.env x = pure x) : PE X (.DictComp kx vx [⟨tg, iter, ifs, 0⟩] scope pos) (tDc1 o0 wi g tt tk tv (own.map (·.2))) :=
  ⟨fun pins s σ H Q I h => dc_head (own := own) (loop := fun J σ H D Qe => LpW J g tt (tlPut tk tv D) (own.map fun p : Str × Nat => p.2) σ H Qe) ho hN I hi ok hs h fun s3 s4 H3 C cl fp J it D tn Qe T lp I4 st4 n4 stat =>
    lp_emit hu hc T I4 st4 n4 stat (hg _ _ _ _ _) (ht _ _ _ _ _) (hk _ _ _ _ _) (hv _ _ _ _ _) lp fun _ => cl_one⟩
theorem pe_dc2 (ho : o0 = .dK [] ∨ o0 = .dT []) (hu : X.A.units + 1 < cLine) (hc : X.calm = true) (hN : X.N.Nodup) (hi : PI X tg iter wi) (ok : BlkOk X.N X.env.scope scope own) (sub : ∀ i ∈ vs1, i ∈ own.map (·.2))
    (hg : ∀ (s : Shared) (H : Hp) (C : Addr) (cl : List (Str × Addr)) (fp : List Addr), PG (X.blk s H scope (compEnvC scope cl C X.env) fp) tg g) (ht : ∀ (s : Shared) (H : Hp) (C : Addr) (cl : List (Str × Addr)) (fp : List Addr), PTs (X.blk s H scope (compEnvC scope cl C X.env) fp) ifs tt)
    (hi1 : ∀ (s : Shared) (H : Hp) (C : Addr) (cl : List (Str × Addr)) (fp : List Addr), PI (X.blk s H scope (compEnvC scope cl C X.env) fp) tg1 iter1 wi1)
    (hg1 : ∀ (s : Shared) (H : Hp) (C : Addr) (cl : List (Str × Addr)) (fp : List Addr), PG (X.blk s H scope (compEnvC scope cl C X.env) fp) tg1 g1) (ht1 : ∀ (s : Shared) (H : Hp) (C : Addr) (cl : List (Str × Addr)) (fp : List Addr), PTs (X.blk s H scope (compEnvC scope cl C X.env) fp) ifs1 tt1)
    (hk : ∀ (s : Shared) (H : Hp) (C : Addr) (cl : List (Str × Addr)) (fp : List Addr), PE (X.blk s H scope (compEnvC scope cl C X.env) fp) kx tk) (hv : ∀ (s : Shared) (H : Hp) (C : Addr) (cl : List (Str × Addr)) (fp : List Addr), PE (X.blk s H scope (compEnvC scope cl C X.env) fp) vx tv)
    (hs : ∀ x, foldedSetIterable iter X.env x = pure x) (hs1 : ∀ env x, foldedSetIterable iter1 env x = pure x) : PE X (.DictComp kx vx [⟨tg, iter, ifs, 0⟩, ⟨tg1, iter1, ifs1, 0⟩] scope pos) (tDc2 o0 wi g tt wi1 g1 tt1 tk tv (own.map (·.2)) vs1) :=
  ⟨fun pins s σ H Q I h => dc_head (own := own) (loop := fun J σ H D Qe => LpW J g tt (tlIn wi1 g1 tt1 (tlPut tk tv D) vs1) (own.map fun p : Str × Nat => p.2) σ H Qe) ho hN I hi ok hs h fun s3 s4 H3 C cl fp J it D tn Qe T lp I4 st4 n4 stat =>
    lp_outer hu hc T I4 st4 n4 sub stat (hg _ _ _ _ _) (ht _ _ _ _ _) (hi1 _ _ _ _ _) (hg1 _ _ _ _ _) (ht1 _ _ _ _ _) (hk _ _ _ _ _) (hv _ _ _ _ _) (hs1 _) lp⟩
end
end DL

namespace DL
open PySem L2 PySem.Spec PyProof.Rows PySem.SeqAt
abbrev TKey := List Key
def lookT (l : List (TKey × D)) (k : TKey) : Option D := (l.find? fun p => decide (p.1 = k)).map (·.2)
def putT (l : List (TKey × D)) (k : TKey) (d : D) : List (TKey × D) :=
  if l.any (fun p => decide (p.1 = k)) = true then l.map (fun p => if p.1 = k then (p.1, d) else p) else l ++ [(k, d)]
theorem lookT_nil {k : TKey} : lookT [] k = none := rfl
theorem lookT_cons {j k : TKey} {d : D} {l : List (TKey × D)} : lookT ((j, d) :: l) k = if j = k then some d else lookT l k := by
  unfold lookT
  by_cases h : j = k <;> simp [List.find?_cons, h]
theorem lookT_any {k : TKey} : ∀ {l : List (TKey × D)}, l.any (fun p => decide (p.1 = k)) = (lookT l k).isSome
  | [] => rfl
  | (j, d) :: l => by
    rw [List.any_cons, lookT_cons, lookT_any (l := l)]
    by_cases h : j = k <;> simp [h]
theorem lookT_map {k j : TKey} {d : D} : ∀ {l : List (TKey × D)}, lookT (l.map fun p => if p.1 = k then (p.1, d) else p) j = if j = k then (lookT l j).map (fun _ => d) else lookT l j
  | [] => by simp [lookT_nil]
  | (i, e) :: l => by
    rw [List.map_cons]
    by_cases h : i = k
    · subst h
      rw [if_pos rfl, lookT_cons, lookT_cons, lookT_map (l := l)]
      by_cases q : j = i
      · subst q; simp
      · have q' : ¬ i = j := fun e => q e.symm
        simp [q, q']
    · rw [if_neg h, lookT_cons, lookT_cons, lookT_map (l := l)]
      by_cases q : j = k
      · subst q; simp [h]
      · simp [q]
theorem lookT_snoc {k j : TKey} {d : D} : ∀ {l : List (TKey × D)}, lookT (l ++ [(k, d)]) j = match lookT l j with | some e => some e | none => if j = k then some d else none
  | [] => by
    rw [List.nil_append, lookT_cons, lookT_nil]
    by_cases q : k = j
    · subst q; simp
    · have q' : ¬ j = k := fun e => q e.symm
      simp [q, q']
  | (i, e) :: l => by
    rw [List.cons_append, lookT_cons, lookT_cons, lookT_snoc (l := l)]
    by_cases q : i = j <;> simp [q]
theorem lookT_put {l : List (TKey × D)} {k j : TKey} {d : D} : lookT (putT l k d) j = if j = k then some d else lookT l j := by
  unfold putT
  rw [lookT_any]
  by_cases h : (lookT l k).isSome = true
  · rw [if_pos h, lookT_map]
    by_cases q : j = k
    · subst q
      obtain ⟨e, he⟩ := Option.isSome_iff_exists.mp h
      simp [he]
    · simp [q]
  · rw [if_neg h, lookT_snoc]
    have h' : lookT l k = none := by
      cases e : lookT l k with
      | none => rfl
      | some x => rw [e] at h; exact (h rfl).elim
    by_cases q : j = k
    · subst q; simp [h']
    · simp only [if_neg q]
      cases lookT l j <;> rfl
theorem putT_len {l : List (TKey × D)} {k : TKey} {d : D} : (putT l k d).length ≤ l.length + 1 := by
  unfold putT
  split <;> simp
theorem putT_new {l : List (TKey × D)} {k : TKey} {d : D} (h : lookT l k = none) : putT l k d = l ++ [(k, d)] := by
  unfold putT
  rw [lookT_any, h]; rfl
theorem lookT_none {l : List (TKey × D)} {k : TKey} : lookT l k = none ↔ k ∉ l.map (·.1) := by
  induction l with
  | nil => simp [lookT_nil]
  | cons p l ih =>
    obtain ⟨j, d⟩ := p
    rw [lookT_cons, List.map_cons, List.mem_cons]
    by_cases h : j = k
    · subst h; simp
    · rw [if_neg h, ih]
      have h' : ¬ k = j := fun e => h e.symm
      simp [h']
theorem RpT.look {n : Nm} {F : Hp} {k : TKey} : ∀ {l : List (TKey × D)} {kvs : List (TKey × V)}, RpT n F l kvs → (∀ d, lookT l k = some d → ∃ v, valV kvs k = some v ∧ Rp n F d v) ∧ (lookT l k = none → valV kvs k = none)
  | [], kvs, h => by
    rw [show kvs = [] from h]
    exact ⟨fun d e => (nomatch e), fun _ => rfl⟩
  | (j, d) :: l, kvs, ⟨v, r, e, h1, h2⟩ => by
    subst e
    have ih := RpT.look (k := k) h2
    rw [lookT_cons]
    by_cases q : j = k
    · rw [valV_pos (p := (j, v)) q, if_pos q]
      exact ⟨fun d' e => ⟨v, rfl, (by cases e; exact h1)⟩, fun e => (nomatch e)⟩
    · rw [valV_neg (p := (j, v)) q, if_neg q]
      exact ih
theorem RpT.put {n : Nm} {F : Hp} {k : TKey} {d : D} {v : V} (hd : Rp n F d v) {l : List (TKey × D)} {kvs : List (TKey × V)} (h : RpT n F l kvs) : RpT n F (putT l k d) (putK kvs k v) := by
  have e : l.any (fun p => decide (p.1 = k)) = kvs.any (fun p => decide (p.1 = k)) := by
    clear hd
    induction l generalizing kvs with
    | nil => rw [show kvs = [] from h]; rfl
    | cons p l ih =>
      obtain ⟨v', r, e, _, h2⟩ := h
      subst e
      rw [List.any_cons, List.any_cons, ih h2]
  unfold putT putK
  rw [e]
  split
  · clear e
    rename_i q
    clear q
    induction l generalizing kvs with
    | nil => rw [show kvs = [] from h]; rfl
    | cons p l ih =>
      obtain ⟨j, d'⟩ := p
      obtain ⟨v', r, e, h1, h2⟩ := h
      subst e
      rw [List.map_cons, List.map_cons]
      by_cases q : j = k
      · rw [if_pos q, if_pos q]; exact ⟨v, _, rfl, hd, ih h2⟩
      · rw [if_neg q, if_neg q]; exact ⟨v', _, rfl, h1, ih h2⟩
  · clear e
    rename_i q
    clear q
    induction l generalizing kvs with
    | nil => rw [show kvs = [] from h]; exact ⟨v, [], rfl, hd, rfl⟩
    | cons p l ih =>
      obtain ⟨j, d'⟩ := p
      obtain ⟨v', r, e, h1, h2⟩ := h
      subst e
      exact ⟨v', _, rfl, h1, ih h2⟩
theorem RpT.len {n : Nm} {F : Hp} : ∀ {l : List (TKey × D)} {kvs : List (TKey × V)}, RpT n F l kvs → kvs.length = l.length
  | [], kvs, h => by rw [show kvs = [] from h]; rfl
  | (j, d) :: l, kvs, ⟨v, r, e, _, h2⟩ => by subst e; simp [RpT.len h2]
/-- a tuple of keys -/
@[reducible] def onKeys (k : TKey → Prop) : List D → Prop
  | [] => k []
  | d :: r => onKey (fun j => onKeys (fun t => k (j :: t)) r) d
@[reducible] def onTK (k : TKey → Prop) : D → Prop
  | .tup l => onKeys k l
  | _ => False
theorem onKeys.get {n : Nm} {F : Hp} : ∀ {l : List D} {xs : List V} {k : TKey → Prop}, onKeys k l → Rps n F l xs → ∃ ks, xs = ks.map kV ∧ l = ks.map keyD ∧ k ks
  | [], xs, k, h, r => ⟨[], r, rfl, h⟩
  | d :: l, xs, k, h, ⟨v, t, e, h1, h2⟩ => by
    subst e
    have h : onKey (fun j => onKeys (fun t => k (j :: t)) l) d := h
    obtain ⟨j, ej, h3⟩ : ∃ j, d = keyD j ∧ onKeys (fun t => k (j :: t)) l := by
      cases d with
      | int i => exact ⟨.inl i, rfl, h⟩
      | str s => exact ⟨.inr s, rfl, h⟩
      | _ => exact h.elim
    subst ej
    obtain ⟨ks, e1, e2, h4⟩ := onKeys.get h3 h2
    subst e1; subst e2
    refine ⟨j :: ks, ?_, rfl, h4⟩
    have : v = kV j := by cases j <;> exact h1
    rw [this]; rfl
theorem onTK.get {k : TKey → Prop} {n : Nm} {F : Hp} {d : D} {v : V} (h : onTK k d) (r : Rp n F d v) : ∃ ks b, v = .ref b ∧ F b = some (.tup (ks.map kV)) ∧ d = .tup (ks.map keyD) ∧ k ks := by
  cases d with
  | tup l =>
    obtain ⟨b, xs, rfl, hb, s⟩ := r
    obtain ⟨ks, rfl, rfl, q⟩ := onKeys.get h s
    exact ⟨ks, b, rfl, hb, rfl, q⟩
  | _ => exact h.elim
theorem onKeys_keys {k : TKey → Prop} : ∀ {ks : TKey}, onKeys k (ks.map keyD) ↔ k ks
  | [] => Iff.rfl
  | j :: ks => by
    have := onKeys_keys (k := fun t => k (j :: t)) (ks := ks)
    cases j <;> exact this
theorem onTK_ints {k : TKey → Prop} {l : List Int} (h : k (l.map .inl)) : onTK k (.tup (l.map D.int)) := by
  have e : l.map D.int = (l.map Sum.inl).map keyD := by rw [List.map_map]; rfl
  show onKeys k (l.map D.int)
  rw [e]
  exact onKeys_keys.mpr h
@[reducible] def putC : Ct → D → D → (Ct → Prop) → Prop
  | .dK l, o, p, k => onKey (fun j => l.length < sizeLine ∧ k (.dK (putD l j p))) o
  | .dT l, o, p, k => onTK (fun j => l.length < sizeLine ∧ k (.dT (putT l j p))) o
  | .lst _, _, _, _ => False
abbrev Body := Ct → SS → (Ct → SS → Prop) → Prop
structure Tn (g : DG) (t : DT) (body : Body) (vs : List Nat) (l : List D) (c0 : Ct) (S : SS) (R : Ct → SS → Prop) : Prop where
  ex : ∃ I : Ct → List D → SS → Prop, I c0 l S ∧ (∀ c S1, I c [] S1 → R c S1) ∧
    ∀ c d r S0, I c (d :: r) S0 → g d (wipeS S0 vs) fun S1 => t S1 fun k S2 => (k = true → body c S2 fun c' S3 => I c' r (unw S0 S3 vs)) ∧ (k = false → I c r (unw S0 S2 vs))
def dTnL (g : DG) (t : DT) (body : Body) (vs : List Nat) : List D → Ct → SS → (Ct → SS → Prop) → Prop
  | [], c, S, R => R c S
  | d :: l, c, S, R => g d (wipeS S vs) fun S1 => t S1 fun k S2 => (k = true → body c S2 fun c' S3 => dTnL g t body vs l c' (unw S S3 vs) R) ∧ (k = false → dTnL g t body vs l c (unw S S2 vs) R)
theorem Tn.unroll {g : DG} {t : DT} {body : Body} {vs : List Nat} {l : List D} {c0 : Ct} {S : SS} {R : Ct → SS → Prop} (h : dTnL g t body vs l c0 S R) : Tn g t body vs l c0 S R :=
  ⟨⟨fun c r S1 => dTnL g t body vs r c S1 R, h, fun _ _ h => h, fun _ _ _ _ h => h⟩⟩
def bPut (fk fv : DE) : Body := fun c S K => fk S fun o S1 => fv S1 fun p S2 => putC c o p fun c' => K c' S2
@[reducible] def onCL (k : List D → Prop) : Ct → Prop
  | .lst l => k l
  | _ => False
def bApp (f : DE) : Body := fun c S K => f S fun o S1 => onCL (fun l => l.length < sizeLine ∧ K (.lst (l ++ [o])) S1) c
def bIn (w : DI) (g : DG) (t : DT) (body : Body) (vs : List Nat) : Body := fun c S K => w S fun l S1 => Tn g t body vs l c S1 K
def fDc (c0 : Ct) (w : DI) (g : DG) (t : DT) (body : Body) (vs : List Nat) : DF := fun S R => w S fun l S1 => Tn g t body vs l c0 S1 R
section
variable {z : Z} {F : Hp} {σ : L2.St} {H : Hp} {S : SS} {c : Ct} {D : Addr}
theorem blk_out (r : Rep z F σ H S) (fr : Fresh z σ F H S c D) {F5 : Hp} {σ5 : L2.St} {H5 : Hp} {S5 : SS} (x : Ext z.n F F5) (r5 : Rep (blkZ z F σ H S) F5 σ5 H5 S5) : Rep z F5 σ5 H5 S5 ∧ Fresh z σ5 F5 H5 S5 c D := by
  have pD : ∀ j, z.pr j ≠ some D := fun j hj => by
    obtain ⟨⟨o, ho⟩, _⟩ := r.pi0 j D hj
    rw [fr.new] at ho; cases ho
  obtain ⟨o, hD, po, nt⟩ := fr.ct.ex
  have bD : blkH z σ H S D = some o := by rw [blkH_at fr.ne]; exact hD
  have hD5 : H5 D = some o := r5.keep D _ bD pD
  have fD5 : F5 D = none := by
    cases e : F5 D with
    | none => rfl
    | some u =>
      rcases r5.new D u e with ⟨o0, q0⟩ | q0 | ⟨xs, rfl, q0⟩
      · have w := fr.out
        rw [show F D = some o0 from q0] at w; cases w
      · rw [show blkH z σ H S D = none from q0] at bD; cases bD
      · rw [show blkH z σ H S D = _ from q0] at bD; cases bD; cases nt
  refine ⟨r.back x r5 r5.pin, fD5, fr.new, fr.ct.mono x fun o' h' _ => by rw [hD] at h'; cases h'; exact hD5, fun j c' hj ej => ?_⟩
  obtain ⟨a, e1, _, n1, _⟩ := r5.sl j _ hj
  rw [ej] at e1; cases e1
  rcases n1 with n1 | n1
  · rw [show blkH z σ H S D = none from n1] at bD; cases bD
  · exact pD j n1
end
/-- a body's reading over the heap -/
structure BodyOk (n : Nm) (pr : Nat → Option Addr) (tl : Addr → TL) (body : Body) : Prop where
  ok : ∀ {F0 H0 F : Hp} {σ : L2.St} {H : Hp} {S : SS} {c : Ct} {D : Addr} {K : Ct → SS → Prop} {Nx : Hp → Prop}, Rep ⟨n, F0, H0, pr⟩ F σ H S → Fresh ⟨n, F0, H0, pr⟩ σ F H S c D → body c S K →
    (∀ F' H' S' c', Ext n F F' → Rep ⟨n, F0, H0, pr⟩ F' σ H' S' → Fresh ⟨n, F0, H0, pr⟩ σ F' H' S' c' D → K c' S' → Nx H') → tl D σ H Nx
section
variable {n : Nm} {pr : Nat → Option Addr}
theorem Fresh.poke {z : Z} {F : Hp} {σ : L2.St} {H : Hp} {S : SS} {c c' : Ct} {D : Addr} {o : HO} (r : Rep z F σ H S) (fr : Fresh z σ F H S c D) (h : CtOk z.n F (upd H D o) D c') : Rep z F σ (upd H D o) S ∧ Fresh z σ F (upd H D o) S c' D :=
  ⟨r.poke fr.out fr.new fr.ne, fr.out, fr.new, h, fr.ne⟩
theorem body_put {fk fv : DE} : BodyOk n pr (tlPut (tEx n pr fk) (tEx n pr fv)) (bPut fk fv) := ⟨fun {F0 H0 F σ H S c D K Nx} r fr hb k => by
  refine ⟨_, _, tE.use r.block hb fun y H1 F1 S1 o x1 r1 h1 q1 => ?_⟩
  obtain ⟨r1', fr1⟩ := blk_out r fr x1 r1
  refine ⟨_, _, tE.use r1'.block q1 fun v H2 F2 S2 p x2 r2 h2 q2 => ?_⟩
  obtain ⟨r2', fr2⟩ := blk_out r1' fr1 x2 r2
  cases c with
  | lst l => exact q2.elim
  | dK l =>
    obtain ⟨j, rfl, hl, q3⟩ := onKey.get (k := fun j => l.length < sizeLine ∧ K (.dK (putD l j p)) _) q2 (h1.mono x2)
    obtain ⟨kvs, e, s⟩ := fr2.ct
    obtain ⟨r3, fr3⟩ := fr2.poke (c' := .dK (putD l j p)) (o := .dK (putK kvs j v)) r2' ⟨_, upd_same, s.put h2⟩
    exact ⟨_, DPut.k e (by rw [s.len]; exact hl), k _ _ _ _ (x1.trans x2) r3 fr3 q3⟩
  | dT l =>
    obtain ⟨j, b, rfl, hb2, _, hl, q3⟩ := onTK.get (k := fun j => l.length < sizeLine ∧ K (.dT (putT l j p)) _) q2 (h1.mono x2)
    obtain ⟨kvs, e, s⟩ := fr2.ct
    obtain ⟨r3, fr3⟩ := fr2.poke (c' := .dT (putT l j p)) (o := .dT (putK kvs j v)) r2' ⟨_, upd_same, s.put h2⟩
    exact ⟨_, DPut.t e (r2'.ext.at hb2 rfl) (by rw [s.len]; exact hl), k _ _ _ _ (x1.trans x2) r3 fr3 q3⟩⟩
def tlApp (te : TE) (D : Addr) : TL := fun σ H Nx => te σ H fun y H7 => ∃ acc, H7 D = some (.lst acc) ∧ acc.length < sizeLine ∧ Nx (upd H7 D (.lst (acc ++ [y])))
theorem body_app {f : DE} : BodyOk n pr (tlApp (tEx n pr f)) (bApp f) := ⟨fun {F0 H0 F σ H S c D K Nx} r fr hb k => by
  refine ⟨_, _, tE.use r.block hb fun y H1 F1 S1 o x1 r1 h1 q1 => ?_⟩
  obtain ⟨r1', fr1⟩ := blk_out r fr x1 r1
  cases c with
  | lst l =>
    obtain ⟨hl, q⟩ := q1
    obtain ⟨xs, e, s⟩ := fr1.ct
    obtain ⟨r3, fr3⟩ := fr1.poke (c' := .lst (l ++ [o])) (o := .lst (xs ++ [y])) r1' ⟨_, upd_same, s.append (Rps.one h1)⟩
    exact ⟨xs, e, by rw [s.length]; exact hl, k _ _ _ _ x1 r3 fr3 q⟩
  | _ => exact q1.elim⟩
/-- the loop -/
theorem tn_use {F0 H0 F : Hp} {σ : L2.St} {H : Hp} {S : SS} {c : Ct} {D : Addr} {J : It} {l : List DL.D} {K : PySem.W.Frag} {g : TG} {gd : DG} {t : DT} {body : Body} {tl : Addr → TL} {vs : List Nat} {R : Ct → SS → Prop} {Qe : Hp → Prop}
    (hK : n.K = K) (hg : GOk K g gd vs) (hp : ∀ i ∈ vs, pr i = none) (hb : BodyOk n pr tl body) (r0 : Rep ⟨n, F0, H0, pr⟩ F σ H S) (fr0 : Fresh ⟨n, F0, H0, pr⟩ σ F H S c D) (ok : ItOk n J F l) (h : Tn gd t body vs l c S R)
    (k : ∀ F' H' S' c', Ext n F F' → Rep ⟨n, F0, H0, pr⟩ F' σ H' S' → Fresh ⟨n, F0, H0, pr⟩ σ F' H' S' c' D → R c' S' → Qe H') : LpW J g (tTx n pr t) (tl D) vs σ H Qe := by
  obtain ⟨I, q, qn, qs⟩ := h
  refine ⟨fun i m H1 => m = l.length - i ∧ i ≤ l.length ∧ ∃ F1 S1 c1, Ext n F F1 ∧ Rep ⟨n, F0, H0, pr⟩ F1 σ H1 S1 ∧ Fresh ⟨n, F0, H0, pr⟩ σ F1 H1 S1 c1 D ∧ I c1 (l.drop i) S1, ⟨l.length, by omega, by omega, F, S, c, Ext.refl, r0, fr0, by simpa using q⟩, ?_⟩
  rintro i m H1 ⟨rfl, hi, F1, S1, c1, x1, r1, fr1, q1⟩
  by_cases he : i = l.length
  · refine .inl ⟨ok.stop F1 H1 i x1 r1.ext (by omega), ?_⟩
    rw [he, List.drop_length] at q1
    exact k _ _ _ _ x1 r1 fr1 (qn _ _ q1)
  · have hi' : i < l.length := by omega
    refine .inr ⟨ok.go F1 H1 i x1 r1.ext hi', fun H2 => ∃ F2 S2 c2, Ext n F F2 ∧ Rep ⟨n, F0, H0, pr⟩ F2 σ H2 S2 ∧ Fresh ⟨n, F0, H0, pr⟩ σ F2 H2 S2 c2 D ∧ I c2 (l.drop (i + 1)) S2, ?_, ?_⟩
    · rintro H2 ⟨F2, S2, c2, a1, a2, a3, a4⟩
      exact ⟨l.length - (i + 1), by omega, rfl, by omega, F2, S2, c2, a1, a2, a3, a4⟩
    · intro v H2 hy
      obtain ⟨d, F2, e2, x2, x3, nw, kp, h2⟩ := ok.yld F1 H1 i v H2 x1 r1.ext hy hi'
      have r2 := r1.grow x2 nw kp x3
      obtain ⟨o, hD, po, nt⟩ := fr1.ct.ex
      have fD2 : F2 D = none := by
        cases e : F2 D with
        | none => rfl
        | some u =>
          rcases nw D u e with ⟨o0, q0⟩ | q0 | ⟨xs, rfl, q0⟩
          · have w := fr1.out
            rw [q0] at w; cases w
          · rw [hD] at q0; cases q0
          · rw [hD] at q0; cases q0; cases nt
      have fr2 : Fresh ⟨n, F0, H0, pr⟩ σ F2 H2 S1 c1 D := ⟨fD2, fr1.new, fr1.ct.mono x2 fun o' h' _ => kp D o' h', fr1.ne⟩
      rw [drop_cons e2] at q1
      -- the target and the tests, in a block
      refine hg.ok (z := blkZ ⟨n, F0, H0, pr⟩ F2 σ H2 S1) hK hp (r2.block.wiped hp) h2 (qs _ _ _ _ q1) fun σ3 S3 r3 q3 o3 l3 => ?_
      have we : wipe σ3 vs = wipe σ vs := wipe_eq o3 l3
      refine ⟨we, F2, blkH ⟨n, F0, H0, pr⟩ σ H2 S1, tT.use r3 q3 fun kb H4 F4 S4 x4 r4 q4 => ?_⟩
      obtain ⟨r4', fr4⟩ := blk_out r2 fr2 x4 r4
      -- behind the turn
      have fin : ∀ {F5 : Hp} {H5 : Hp} {S5 : SS} {c5 : Ct}, Ext n F2 F5 → Rep ⟨n, F0, H0, pr⟩ F5 σ3 H5 S5 → Fresh ⟨n, F0, H0, pr⟩ σ3 F5 H5 S5 c5 D → I c5 (l.drop (i + 1)) (unw S1 S5 vs) → ∃ F2 S2 c2, Ext n F F2 ∧ Rep ⟨n, F0, H0, pr⟩ F2 σ H5 S2 ∧ Fresh ⟨n, F0, H0, pr⟩ σ F2 H5 S2 c2 D ∧ I c2 (l.drop (i + 1)) S2 := fun {F5 H5 S5 c5} x5 r5 fr5 q5 => by
        refine ⟨F5, _, c5, x1.trans (x2.trans x5), r2.unwiped r5 x5 we, ⟨fr5.out, fr5.new, fr5.ct, fun j c' hj ej => ?_⟩, q5⟩
        rcases unw_get hj with e1 | ⟨_, d', e1, _⟩ | ⟨nj, hj'⟩
        · cases e1
        · cases e1
        · have : σ3[j]? = σ[j]? := by rw [← wipe_out (σ := σ3) nj, we, wipe_out nj]
          exact fr5.ne j c' hj' (this.trans ej)
      cases kb with
      | true => exact iteT (hb.ok r4' fr4 (q4.1 rfl) fun F5 H5 S5 c5 x5 r5 fr5 q5 => fin (x4.trans x5) r5 fr5 q5)
      | false => exact iteF (fin x4 r4' fr4 (q4.2 rfl))
def tIx (n : Nm) (pr : Nat → Option Addr) (w : DI) : TI := fun σ H R => ∃ F0 H0, tI ⟨n, F0, H0, pr⟩ w σ H R
theorem PI.ex {X : Cx} {tg e : Expr} {w : DI} (h : ∀ F0 H0, JI X ⟨n, F0, H0, pr⟩ tg e w) : PI X tg e (tIx n pr w) :=
  ⟨fun pins s σ H Q I ⟨F0, H0, q⟩ => (h F0 H0).run pins s σ H Q I q⟩
theorem body_in {K : PySem.W.Frag} {w : DI} {g : TG} {gd : DG} {t : DT} {body : Body} {tl : Addr → TL} {vs : List Nat} (hK : n.K = K) (hg : GOk K g gd vs) (hp : ∀ i ∈ vs, pr i = none) (hb : BodyOk n pr tl body) : BodyOk n pr (fun D => tlIn (tIx n pr w) g (tTx n pr t) (tl D) vs) (bIn w gd t body vs) := ⟨fun {F0 H0 F σ H S c D Kk Nx} r fr q k => by
  refine ⟨F, blkH ⟨n, F0, H0, pr⟩ σ H S, F, S, _, r.block, q, fun J H1 ⟨F1, S1, l, x1, r1, ok, q1⟩ => ?_⟩
  obtain ⟨r1', fr1⟩ := blk_out r fr x1 r1
  exact tn_use hK hg hp hb r1' fr1 ok q1 fun F' H' S' c' x r f q => k _ _ _ _ (x1.trans x) r f q⟩
end
/-- the empty dict of a kind -/
def EmpD (c0 : Ct) (o0 : HO) : Prop := (c0 = .dK [] ∧ o0 = .dK []) ∨ (c0 = .dT [] ∧ o0 = .dT [])
theorem EmpD.o {c0 : Ct} {o0 : HO} (h : EmpD c0 o0) : o0 = .dK [] ∨ o0 = .dT [] := h.elim (fun h => .inl h.2) fun h => .inr h.2
theorem EmpD.ct {n : Nm} {F H : Hp} {a : Addr} {c0 : Ct} {o0 : HO} (h : EmpD c0 o0) (e : H a = some o0) : CtOk n F H a c0 := by
  rcases h with ⟨rfl, rfl⟩ | ⟨rfl, rfl⟩ <;> exact ⟨[], e, rfl⟩
theorem empK : EmpD (.dK []) (.dK []) := .inl ⟨rfl, rfl⟩
theorem empT : EmpD (.dT []) (.dT []) := .inr ⟨rfl, rfl⟩
section
variable {X : Cx} {z : Z} {kx vx tg iter tg1 iter1 : Expr} {ifs ifs1 : List Expr} {scope : Scope} {own own1 : List (Str × Nat)} {pos : Pos} {w w1 : DI} {g g1 : TG} {gd gd1 : DG} {t t1 : DT} {fk fv f : DE} {c0 : Ct} {o0 : HO}
abbrev InBlk (X : Cx) (scope : Scope) (P : Cx → Prop) : Prop := ∀ (s : Shared) (H : Hp) (C : Addr) (cl : List (Str × Addr)) (fp : List Addr), P (X.blk s H scope (compEnvC scope cl C X.env) fp)
theorem jf_dc1 (hz : z.n.K = X.K) (ho : EmpD c0 o0) (hu : X.A.units + 64 < cLine) (hc : X.calm = true) (hN : X.N.Nodup) (hi : JI X z tg iter w) (ok : BlkOk X.N X.env.scope scope own)
    (hg : ∀ (s : Shared) (H : Hp) (C : Addr) (cl : List (Str × Addr)) (fp : List Addr), PG (X.blk s H scope (compEnvC scope cl C X.env) fp) tg g) (hgo : GOk X.K g gd (own.map (·.2))) (hp : ∀ i ∈ own.map (·.2), z.pr i = none)
    (ht : ∀ (F0 H0 : Hp) (s : Shared) (H : Hp) (C : Addr) (cl : List (Str × Addr)) (fp : List Addr), JTs (X.blk s H scope (compEnvC scope cl C X.env) fp) ⟨z.n, F0, H0, z.pr⟩ ifs t)
    (hk : ∀ (F0 H0 : Hp) (s : Shared) (H : Hp) (C : Addr) (cl : List (Str × Addr)) (fp : List Addr), JE (X.blk s H scope (compEnvC scope cl C X.env) fp) ⟨z.n, F0, H0, z.pr⟩ kx fk)
    (hv : ∀ (F0 H0 : Hp) (s : Shared) (H : Hp) (C : Addr) (cl : List (Str × Addr)) (fp : List Addr), JE (X.blk s H scope (compEnvC scope cl C X.env) fp) ⟨z.n, F0, H0, z.pr⟩ vx fv)
    (hs : ∀ x, foldedSetIterable iter X.env x = pure x := by intro _; rfl) :
    JF X z (.DictComp kx vx [⟨tg, iter, ifs, 0⟩] scope pos) (fDc c0 w gd t (bPut fk fv) (own.map (·.2))) :=
  JF.of (pe_dc1 ho.o (by omega) hc hN hi ok hg (fun s H C cl fp => PTs.ex fun F0 H0 => ht F0 H0 s H C cl fp) (fun s H C cl fp => PE.ex fun F0 H0 => hk F0 H0 s H C cl fp) (fun s H C cl fp => PE.ex fun F0 H0 => hv F0 H0 s H C cl fp) hs) fun F σ H S R r hf =>
    ⟨F, S, _, r, hf, fun J H1 ⟨F1, S1, l, x1, r1, iok, q⟩ D nD => by
      obtain ⟨r2, fr⟩ := r1.fresh (c := c0) (o := o0) nD (ho.ct upd_same)
      exact tn_use hz hgo hp body_put r2 fr iok q fun F' H' S' c' x r f q => ⟨F', S', c', D, rfl, x1.trans x, r, f, q⟩⟩
theorem jf_dc2 (hz : z.n.K = X.K) (ho : EmpD c0 o0) (hu : X.A.units + 64 < cLine) (hc : X.calm = true) (hN : X.N.Nodup) (hi : JI X z tg iter w) (ok : BlkOk X.N X.env.scope scope own) (sub : ∀ i ∈ own1.map (·.2), i ∈ own.map (·.2))
    (hg : ∀ (s : Shared) (H : Hp) (C : Addr) (cl : List (Str × Addr)) (fp : List Addr), PG (X.blk s H scope (compEnvC scope cl C X.env) fp) tg g) (hgo : GOk X.K g gd (own.map (·.2))) (hp : ∀ i ∈ own.map (·.2), z.pr i = none)
    (ht : ∀ (F0 H0 : Hp) (s : Shared) (H : Hp) (C : Addr) (cl : List (Str × Addr)) (fp : List Addr), JTs (X.blk s H scope (compEnvC scope cl C X.env) fp) ⟨z.n, F0, H0, z.pr⟩ ifs t)
    (hi1 : ∀ (F0 H0 : Hp) (s : Shared) (H : Hp) (C : Addr) (cl : List (Str × Addr)) (fp : List Addr), JI (X.blk s H scope (compEnvC scope cl C X.env) fp) ⟨z.n, F0, H0, z.pr⟩ tg1 iter1 w1)
    (hg1 : ∀ (s : Shared) (H : Hp) (C : Addr) (cl : List (Str × Addr)) (fp : List Addr), PG (X.blk s H scope (compEnvC scope cl C X.env) fp) tg1 g1) (hgo1 : GOk X.K g1 gd1 (own1.map (·.2)))
    (ht1 : ∀ (F0 H0 : Hp) (s : Shared) (H : Hp) (C : Addr) (cl : List (Str × Addr)) (fp : List Addr), JTs (X.blk s H scope (compEnvC scope cl C X.env) fp) ⟨z.n, F0, H0, z.pr⟩ ifs1 t1)
    (hk : ∀ (F0 H0 : Hp) (s : Shared) (H : Hp) (C : Addr) (cl : List (Str × Addr)) (fp : List Addr), JE (X.blk s H scope (compEnvC scope cl C X.env) fp) ⟨z.n, F0, H0, z.pr⟩ kx fk)
    (hv : ∀ (F0 H0 : Hp) (s : Shared) (H : Hp) (C : Addr) (cl : List (Str × Addr)) (fp : List Addr), JE (X.blk s H scope (compEnvC scope cl C X.env) fp) ⟨z.n, F0, H0, z.pr⟩ vx fv)
    (hs : ∀ x, foldedSetIterable iter X.env x = pure x := by intro _; rfl) (hs1 : ∀ env x, foldedSetIterable iter1 env x = pure x := by intro _ _; rfl) :
    JF X z (.DictComp kx vx [⟨tg, iter, ifs, 0⟩, ⟨tg1, iter1, ifs1, 0⟩] scope pos) (fDc c0 w gd t (bIn w1 gd1 t1 (bPut fk fv) (own1.map (·.2))) (own.map (·.2))) :=
  JF.of (pe_dc2 ho.o (by omega) hc hN hi ok sub hg (fun s H C cl fp => PTs.ex fun F0 H0 => ht F0 H0 s H C cl fp) (fun s H C cl fp => PI.ex fun F0 H0 => hi1 F0 H0 s H C cl fp) hg1 (fun s H C cl fp => PTs.ex fun F0 H0 => ht1 F0 H0 s H C cl fp) (fun s H C cl fp => PE.ex fun F0 H0 => hk F0 H0 s H C cl fp) (fun s H C cl fp => PE.ex fun F0 H0 => hv F0 H0 s H C cl fp) hs hs1) fun F σ H S R r hf =>
    ⟨F, S, _, r, hf, fun J H1 ⟨F1, S1, l, x1, r1, iok, q⟩ D nD => by
      obtain ⟨r2, fr⟩ := r1.fresh (c := c0) (o := o0) nD (ho.ct upd_same)
      exact tn_use hz hgo hp (body_in hz hgo1 (fun i hi => hp i (sub i hi)) body_put) r2 fr iok q fun F' H' S' c' x r f q => ⟨F', S', c', D, rfl, x1.trans x, r, f, q⟩⟩
/-- [f for .. for ..] -/
theorem jf_lc2 (hz : z.n.K = X.K) (hc : X.calm = true) (hN : X.N.Nodup) (hi : JI X z tg iter w) (ok : BlkOk X.N X.env.scope scope own) (sub : ∀ i ∈ own1.map (·.2), i ∈ own.map (·.2))
    (hg : ∀ (s : Shared) (H : Hp) (C : Addr) (cl : List (Str × Addr)) (fp : List Addr), PG (X.blk s H scope (compEnvC scope cl C X.env) fp) tg g) (hgo : GOk X.K g gd (own.map (·.2))) (hp : ∀ i ∈ own.map (·.2), z.pr i = none)
    (ht : ∀ (F0 H0 : Hp) (s : Shared) (H : Hp) (C : Addr) (cl : List (Str × Addr)) (fp : List Addr), JTs (X.blk s H scope (compEnvC scope cl C X.env) fp) ⟨z.n, F0, H0, z.pr⟩ ifs t)
    (hi1 : ∀ (F0 H0 : Hp) (s : Shared) (H : Hp) (C : Addr) (cl : List (Str × Addr)) (fp : List Addr), JI (X.blk s H scope (compEnvC scope cl C X.env) fp) ⟨z.n, F0, H0, z.pr⟩ tg1 iter1 w1)
    (hg1 : ∀ (s : Shared) (H : Hp) (C : Addr) (cl : List (Str × Addr)) (fp : List Addr), PG (X.blk s H scope (compEnvC scope cl C X.env) fp) tg1 g1) (hgo1 : GOk X.K g1 gd1 (own1.map (·.2)))
    (ht1 : ∀ (F0 H0 : Hp) (s : Shared) (H : Hp) (C : Addr) (cl : List (Str × Addr)) (fp : List Addr), JTs (X.blk s H scope (compEnvC scope cl C X.env) fp) ⟨z.n, F0, H0, z.pr⟩ ifs1 t1)
    (he : ∀ (F0 H0 : Hp) (s : Shared) (H : Hp) (C : Addr) (cl : List (Str × Addr)) (fp : List Addr), JE (X.blk s H scope (compEnvC scope cl C X.env) fp) ⟨z.n, F0, H0, z.pr⟩ kx f)
    (hs : ∀ x, foldedSetIterable iter X.env x = pure x := by intro _; rfl) (hs1 : ∀ env x, foldedSetIterable iter1 env x = pure x := by intro _ _; rfl) :
    JF X z (.ListComp kx [⟨tg, iter, ifs, 0⟩, ⟨tg1, iter1, ifs1, 0⟩] scope pos) (fDc (.lst []) w gd t (bIn w1 gd1 t1 (bApp f) (own1.map (·.2))) (own.map (·.2))) :=
  JF.of (pe_lc2 (vs1 := own1.map (·.2)) hc hN hi ok sub hg (fun s H C cl fp => PTs.ex fun F0 H0 => ht F0 H0 s H C cl fp) (fun s H C cl fp => PI.ex fun F0 H0 => hi1 F0 H0 s H C cl fp) hg1 (fun s H C cl fp => PTs.ex fun F0 H0 => ht1 F0 H0 s H C cl fp) (fun s H C cl fp => PE.ex fun F0 H0 => he F0 H0 s H C cl fp) hs hs1) fun F σ H S R r hf =>
    ⟨F, S, _, r, hf, fun J H1 ⟨F1, S1, l, x1, r1, iok, q⟩ D nD => by
      obtain ⟨r2, fr⟩ := r1.fresh (c := .lst []) (o := .lst []) nD ⟨[], upd_same, rfl⟩
      exact tn_use hz hgo hp (body_in hz hgo1 (fun i hi => hp i (sub i hi)) body_app) r2 fr iok q fun F' H' S' c' x r f q => ⟨F', S', c', D, rfl, x1.trans x, r, f, q⟩⟩
end
end DL

namespace DL
open PySem L2 PySem.Spec PyProof.Rows PySem.SeqAt
/-- one list of whole numbers before another -/
def lexL : List Int → List Int → Bool
  | [], [] => false
  | [], _ :: _ => true
  | _ :: _, [] => false
  | x :: xs, y :: ys => if x = y then lexL xs ys else decide (x < y)
theorem lexL_irr : ∀ {l : List Int}, lexL l l = false
  | [] => rfl
  | x :: l => by unfold lexL; rw [if_pos rfl]; exact lexL_irr
theorem lexL_asym : ∀ {l m : List Int}, lexL l m = true → lexL m l = false
  | [], [], h => by cases h
  | _ :: _, [], h => by cases h
  | [], _ :: _, _ => rfl
  | x :: l, y :: m, h => by
    unfold lexL at h ⊢
    by_cases e : x = y
    · rw [if_pos e] at h
      rw [if_pos e.symm]
      exact lexL_asym h
    · rw [if_neg e] at h
      rw [if_neg fun q => e q.symm]
      have := of_decide_eq_true h
      exact decide_eq_false (by omega)
theorem lexL_tot : ∀ {l m : List Int}, lexL l m = false → lexL m l = false → l = m
  | [], [], _, _ => rfl
  | [], _ :: _, h, _ => by cases h
  | _ :: _, [], _, h => by cases h
  | x :: l, y :: m, h, k => by
    unfold lexL at h k
    by_cases e : x = y
    · rw [if_pos e] at h
      rw [if_pos e.symm] at k
      rw [e, lexL_tot h k]
    · rw [if_neg e] at h
      rw [if_neg fun q => e q.symm] at k
      have := of_decide_eq_false h
      have := of_decide_eq_false k
      omega
theorem lexL_trans : ∀ {l m k : List Int}, lexL l m = true → lexL m k = true → lexL l k = true
  | [], [], _, h, _ => by cases h
  | _ :: _, [], _, h, _ => by cases h
  | _, _ :: _, [], _, h => by cases h
  | [], _ :: _, _ :: _, _, _ => rfl
  | x :: l, y :: m, z :: k, h, g => by
    unfold lexL at h g ⊢
    by_cases e : x = y
    · rw [if_pos e] at h
      by_cases e2 : y = z
      · rw [if_pos e2] at g
        rw [if_pos (e.trans e2)]
        exact lexL_trans h g
      · rw [if_neg e2] at g
        have := of_decide_eq_true g
        rw [if_neg (by omega)]
        exact decide_eq_true (by omega)
    · rw [if_neg e] at h
      have := of_decide_eq_true h
      by_cases e2 : y = z
      · rw [if_pos e2] at g
        rw [if_neg (by omega)]
        exact decide_eq_true (by omega)
      · rw [if_neg e2] at g
        have := of_decide_eq_true g
        rw [if_neg (by omega)]
        exact decide_eq_true (by omega)
theorem lexL_swo {α : Type} (k : α → List Int) : SrtO.Swo fun x y => lexL (k x) (k y) := by
  refine ⟨fun x y h => lexL_asym h, fun x y z h1 h2 => ?_⟩
  cases h : lexL (k z) (k x) with
  | false => rfl
  | true =>
    cases h3 : lexL (k x) (k y) with
    | true => rw [lexL_trans h h3] at h2; cases h2
    | false =>
      rw [lexL_tot h3 h1] at h
      exact h.symm.trans h2
/-- values that are these whole numbers -/
def IntAll : List Value → List Int → Prop
  | [], [] => True
  | u :: us, i :: is => (∃ t, u = .int i t) ∧ IntAll us is
  | _, _ => False
theorem IntAll.len : ∀ {us : List Value} {ns : List Int}, IntAll us ns → us.length = ns.length
  | [], [], _ => rfl
  | _ :: us, _ :: ns, h => by rw [List.length_cons, List.length_cons, IntAll.len h.2]
  | [], _ :: _, h => h.elim
  | _ :: _, [], h => h.elim
structure IsTupI (h : Heap) (v : Value) (ns : List Int) : Prop where
  ex : ∃ (a : Addr) (o : Obj) (its : Array Value) (n : Nat), v = .ref a ∧ h.get? a = some o ∧ o.cls = .type "tuple" ∧ o.data = .seq its n ∧ IntAll its.toList ns
theorem IsTupI.keeps {h h' : Heap} {v : Value} {ns : List Int} (x : IsTupI h v ns) (k : ∀ b o, h.get? b = some o → o.cls = .type "tuple" → h'.get? b = some o) : IsTupI h' v ns := by
  obtain ⟨a, o, its, n, e, g, c, d, i⟩ := x.ex
  exact ⟨a, o, its, n, e, k a o g c, c, d, i⟩
section
variable {prog : Program} {w : World} {A : Around} {E : Value → Shared → Prop} {s : Shared}
theorem lexL_kat {Q : Bool → Shared → Prop} {fin : Bool} : ∀ {us ws : List Value} {xs ys : List Int} {i : Nat}, IntAll us xs → IntAll ws ys → fin = decide (xs.length < ys.length) → Q (lexL xs ys) s → PySem.W.KatLex prog w A true fin Q (us.zip ws) i s
  | [], _, [], [], _, _, _, e, h => by
    rw [List.zip_nil_left]
    exact PySem.W.kat_nil (by rw [e]; exact h)
  | [], _, [], _ :: _, _, _, _, e, h => by
    rw [List.zip_nil_left]
    exact PySem.W.kat_nil (by rw [e]; simpa [lexL] using h)
  | [], _, _ :: _, _, _, h1, _, _, _ => h1.elim
  | _ :: _, _, [], _, _, h1, _, _, _ => h1.elim
  | _ :: _, [], _ :: _, [], _, _, _, e, h => by
    rw [List.zip_nil_right]
    exact PySem.W.kat_nil (by rw [e]; simpa [lexL] using h)
  | _ :: _, [], _ :: _, _ :: _, _, _, h2, _, _ => h2.elim
  | _ :: _, _ :: _, _ :: _, [], _, _, h2, _, _ => h2.elim
  | u :: us, v :: ws, x :: xs, y :: ys, i, ⟨⟨t, e1⟩, h1⟩, ⟨⟨t', e2⟩, h2⟩, e, h => by
    subst e1; subst e2
    rw [List.zip_cons_cons]
    refine PySem.W.kat_cons (SeqAt.EqAt.int_int x t y t' prog w _ _ ?_)
    refine PySem.W.kat_go (fun q => ?_) fun q => ?_
    · have q : x = y := by simpa using q
      refine PySem.W.kat_yes (lexL_kat h1 h2 (by rw [e]; simp) ?_)
      have h : Q (if x = y then lexL xs ys else decide (x < y)) s := h
      rw [if_pos q] at h
      exact h
    · have q : ¬ x = y := by simpa using q
      have h : Q (if x = y then lexL xs ys else decide (x < y)) s := h
      rw [if_neg q] at h
      exact PySem.W.kat_no (TS.oneLt_ints _ h)
theorem tup_cmp {vs : List Value} {k : Value → List Int} (hp : ∀ v ∈ vs, IsTupI s.heap v (k v)) : SrtO.Cmp prog w A s (PyProof.Rows.tuples' true) (fun p => p.1 ∈ vs) (SrtO.lt2 fun v u => lexL (k v) (k u)) := by
  intro p q hm hm'
  obtain ⟨a, o, its, n, e, ho, hc, hd, hi⟩ := (hp _ hm).ex
  obtain ⟨a', o', its', n', e', ho', hc', hd', hi'⟩ := (hp _ hm').ex
  show wpAny (model prog w) A (keyLt' (tuples' true) p.1 q.1) (fun r s' => s' = s ∧ r = lexL (k p.1) (k q.1)) (fun _ _ => False) s
  generalize k p.1 = xs at hi ⊢
  generalize k q.1 = ys at hi' ⊢
  rw [e, e']
  refine PySem.W.kat_lt ho hd ho' hd' (lexL_kat hi hi' ?_ ⟨rfl, rfl⟩)
  rw [← hi.len, ← hi'.len]; simp
theorem tup_firsts {h : Heap} : ∀ {vs : List Value}, (∀ v ∈ vs, ∃ n ns, IsTupI h v (n :: ns)) → ∃ fs : List Value, PySem.W.KatTups h vs fs ∧ fs.length = vs.length ∧ ∀ f ∈ fs, ∃ x t, f = Value.int x t
  | [], _ => ⟨[], PySem.W.KatTups.nil, rfl, fun _ hm => (by cases hm)⟩
  | v :: vs, hp => by
    have ⟨fs, h1, h2, h3⟩ := tup_firsts (vs := vs) fun v' hm => hp v' (List.mem_cons_of_mem _ hm)
    obtain ⟨n, ns, x⟩ := hp v (List.mem_cons_self ..)
    obtain ⟨a, o, its, k, e, ho, hc, hd, hi⟩ := x.ex
    subst e
    obtain ⟨l⟩ := its
    rcases l with _ | ⟨u, us⟩
    · exact hi.elim
    obtain ⟨⟨t, eu⟩, _⟩ := hi
    subst eu
    refine ⟨.int n t :: fs, PySem.W.KatTups.cons ho hc hd (by simp) h1, by rw [List.length_cons, List.length_cons, h2], fun f hm => ?_⟩
    rcases List.mem_cons.mp hm with rfl | hm
    · exact ⟨n, t, rfl⟩
    · exact h3 f hm
theorem tups_sortable {a : Addr} {vs : List Value} {k : Value → List Int} (h0 : 0 < vs.length) (hp : ∀ v ∈ vs, IsTupI s.heap v (k v) ∧ k v ≠ []) (ha : ∀ o, s.heap.get? a = some o → o.cls ≠ .type "tuple") : SrtO.SortableO prog w A s a vs fun v u => lexL (k v) (k u) := by
  intro h' keep
  have hp' : ∀ v ∈ vs, IsTupI h' v (k v) := fun v hm => (hp v hm).1.keeps fun b o e c => keep b o (fun z => by subst z; exact ha o e c) e
  obtain ⟨fs, h1, h2, h3⟩ := tup_firsts fun v hm => by
    obtain ⟨n, ns, e⟩ := List.exists_cons_of_ne_nil (hp v hm).2
    exact ⟨n, ns, e ▸ hp' v hm⟩
  refine ⟨tuples' true, fun Q E hq => ?_, tup_cmp hp'⟩
  refine PySem.W.kat_kind (T := .type "int") h1 (by omega) (fun f hm => ?_) (by rfl) ?_
  · obtain ⟨x, t, rfl⟩ := h3 f hm
    exact PySem.W.Looks.now
  · have e : (Value.type "int" != Value.type "tuple") = true := by first | decide +kernel | rfl | decide
    rw [e]
    exact hq
end
end DL

namespace DL
open PySem L2 PySem.Spec PyProof.Rows PySem.SeqAt
theorem intAll_vals : ∀ {ns : List Int} {us : List Value}, Vals (ns.map V.int) us → IntAll us ns
  | [], _, h => by rw [List.map_nil] at h; cases h; exact trivial
  | n :: ns, _, h => by
    rw [List.map_cons] at h
    cases h with
    | cons a b => exact ⟨a, intAll_vals b⟩
def rSortedT (K : PySem.W.Frag) : List V → Hp → VK → Prop := fun vs H Q => ∃ (a : Addr) (xs : List V) (k : V → List Int), vs = [V.ref a] ∧ SqL K H a xs ∧ (∀ x ∈ xs, (∃ t, x = V.ref t ∧ H t = some (.tup ((k x).map V.int))) ∧ k x ≠ []) ∧
  ∀ ys p, ys.Pairwise (fun x y => lexL (k y) (k x) = false) → ys.Perm xs → H p = none → Q (.ref p) (upd H p (.lst ys))
theorem cr_sortedT {X : Cx} : CallR X (.builtin "sorted") (rSortedT X.K) := by
  intro pins s σ H vs us Q I r ⟨a, xs, k, ev, hs, hx, q⟩
  subst ev
  have ⟨its, rv, held, few⟩ := I.list hs
  obtain ⟨u, rfl, ru⟩ := vals1 r
  obtain rfl : u = Value.ref a := ru
  have ⟨back, isRef⟩ := refs_back rv fun x m => have ⟨⟨t, e, _⟩, _⟩ := hx x m; ⟨t, e⟩
  have tups : ∀ v ∈ its, IsTupI s.heap v (k (backV v)) ∧ k (backV v) ≠ [] := fun v hv => by
    obtain ⟨t, rfl⟩ := isRef v hv
    have hm : V.ref t ∈ xs := back ▸ List.mem_map.mpr ⟨_, hv, rfl⟩
    obtain ⟨⟨t', e, ht⟩, ne⟩ := hx _ hm
    cases e
    have ⟨_, its2, r2, o, ho, hc, n, hd⟩ := I.hok _ _ ht
    exact ⟨⟨t, o, its2.toArray, n, rfl, ho, hc, hd, intAll_vals r2⟩, ne⟩
  refine SrtO.sorted_ord (lexL_swo fun u => k (backV u)) held.isList (rv.length ▸ few) (fun h2 h1 b hb keep => ?_) fun out srt stb => ?_
  · refine tups_sortable (s := { s with heap := h1 }) (by omega) (fun v hv => ⟨(tups v hv).1.keeps fun c o e _ => (keep c o e).2, (tups v hv).2⟩) fun o e c => ?_
    cases Option.some.inj (e.symm.trans hb)
    exact absurd (Value.type.inj c) (by decide)
  · have refs : ∀ u ∈ out, ∃ b, u = Value.ref b := fun u hu => isRef u (stb.perm.mem_iff.mp hu)
    have ⟨n, hn⟩ := sortedAll_at s.heap its out.toArray
    have pm : (out.map backV).Perm xs := back ▸ stb.perm.map backV
    refine ⟨.ref (s.heap.objs.size + 1), upd H (s.heap.objs.size + 1) (.lst (out.map backV)), I.laid (t' := s.toks) (fun b o e => sortedAll_old e) (Nat.le_succ _) ⟨?_, out, n, vals_back refs, hn⟩, rfl, q _ _ ?_ pm (I.hok.fresh (Nat.le_succ _))⟩
    · rw [pm.length_eq]; exact few
    · exact List.pairwise_map.mpr srt
def tupOf (F : Hp) : V → List Int
  | .ref t => match F t with
    | some (.tup xs) => xs.map fun x => match x with
      | .int i => i
      | _ => 0
    | _ => []
  | _ => []
theorem tupOf_rp {n : Nm} {F : Hp} {ns : List Int} {x : V} (h : Rp n F (.tup (ns.map D.int)) x) : ∃ t, x = .ref t ∧ F t = some (.tup (ns.map V.int)) ∧ tupOf F x = ns := by
  obtain ⟨t, xs, rfl, h1, h2⟩ := h
  rw [h2.ints] at h1
  refine ⟨t, rfl, h1, ?_⟩
  simp only [tupOf, h1, List.map_map]
  exact List.map_id'' (fun _ => rfl) _
def leT (d e : D) : Prop := ∀ ns ms : List Int, d = .tup (ns.map D.int) → e = .tup (ms.map D.int) → lexL ms ns = false
def gSortT : GN := fun ds k => on1 (onLS fun l => (∀ d ∈ l, ∃ n ns, d = .tup ((n :: ns).map D.int)) ∧ ∀ l' : List D, l'.Perm l → l'.Pairwise leT → k (.lst l')) ds
theorem Rps.mem {n : Nm} {F : Hp} {P : V → Prop} : ∀ {m : List D} {ys : List V}, Rps n F m ys → (∀ d ∈ m, ∀ y, Rp n F d y → P y) → ∀ y ∈ ys, P y
  | [], ys, r, _, y, hy => by rw [show ys = [] from r] at hy; cases hy
  | a :: m, ys, ⟨u, t, e, g1, g2⟩, h, y, hy => by
    subst e
    rcases List.mem_cons.mp hy with rfl | hy
    · exact h a (List.mem_cons_self ..) _ g1
    · exact Rps.mem g2 (fun d hd => h d (List.mem_cons_of_mem _ hd)) y hy
section
variable {X : Cx} {z : Z}
theorem sortT_core {F : Hp} {σ : L2.St} {H : Hp} {S : SS} {l : List D} {xs : List V} {Kf : PySem.W.Frag} {a : Addr} {k : D → Prop} (r : Rep z F σ H S) (h1 : SqL Kf H a xs) (s1 : Rps z.n F l xs) (hp : ∀ d ∈ l, ∃ n ns, d = .tup ((n :: ns).map D.int)) (q : ∀ l' : List D, l'.Perm l → l'.Pairwise leT → k (.lst l')) :
    rSortedT Kf [.ref a] H fun v H' => ∃ F' o, Ext z.n F F' ∧ Rep z F' σ H' S ∧ Rp z.n F' o v ∧ k o := by
  refine ⟨a, xs, tupOf F, rfl, h1, Rps.mem s1 fun d hd x hx => ?_, fun ys p hs hb hn => ?_⟩
  · obtain ⟨n, ns, rfl⟩ := hp d hd
    obtain ⟨t, e, g, g2⟩ := tupOf_rp hx
    rw [g2]
    exact ⟨⟨t, e, r.ext.at g rfl⟩, by simp⟩
  · obtain ⟨l', pm, s2⟩ := Rps.perm hb s1
    refine ⟨_, .lst l', Ext.new (r.ext.free hn), r.lay _ hn, ⟨p, _, rfl, upd_same, s2.mono (Ext.new (r.ext.free hn))⟩, q l' pm ?_⟩
    refine Rps.pairs (P := fun x y => lexL (tupOf F y) (tupOf F x) = false) (fun d e x y g1 g2 hlt ns ms ed ee => ?_) s2 hs
    subst ed; subst ee
    obtain ⟨_, _, _, k1⟩ := tupOf_rp g1
    obtain ⟨_, _, _, k2⟩ := tupOf_rp g2
    rw [k1, k2] at hlt
    exact hlt
theorem cd_sortT (hz : z.n.K = X.K) : CallD X z (.builtin "sorted") gSortT := ⟨⟨_, cr_sortedT, fun {F σ H S vs ds R} r rv q => by
  obtain ⟨d, rfl, q0⟩ := on1.get q
  obtain ⟨v, rfl, w1⟩ := rv.one
  obtain ⟨l, hd, hp, q1⟩ := onLS.get q0
  obtain ⟨a, xs, rfl, h1, s1⟩ := w1.list r.ext hd
  have core := sortT_core (k := fun o => R o S) r (hz ▸ h1) s1 hp q1
  obtain ⟨a', xs', kf, e, g1, g2, g3⟩ := core
  refine ⟨a', xs', kf, e, g1, g2, fun ys p hs hb hn => ?_⟩
  obtain ⟨F', o, x, r', h', q'⟩ := g3 ys p hs hb hn
  exact ⟨F', S, o, x, r', h', q'⟩⟩⟩
end
end DL

namespace DL
open PySem L2 PySem.Spec PyProof.Rows PySem.SeqAt
@[reducible] def onDct (kK : List (Key × D) → Prop) (kT : List (TKey × D) → Prop) : D → Prop
  | .dK l => kK l
  | .dT l => kT l
  | _ => False
/-- what a dict holds at a key -/
@[reducible] def onAt (o e : D) (k : Option D → Prop) : Prop := onDct (fun l => onKey (fun j => k (lookK l j)) e) (fun l => onTK (fun j => k (lookT l j)) e) o
theorem onAt.get {z : Z} {F : Hp} {σ : L2.St} {H : Hp} {S : SS} {o e : D} {k : Option D → Prop} {x y : V} (r : Rep z F σ H S) (h : onAt o e k) (ro : Rv z.n F H o x) (re : Rp z.n F e y) : ∃ a ov od, x = .ref a ∧ DGet H a y ov ∧ IsD H a ∧ k od ∧ (∀ d, od = some d → ∃ v, ov = some v ∧ Rp z.n F d v) ∧ (od = none → ov = none) := by
  cases o with
  | dK l =>
    obtain ⟨a, kvs, rfl, h1, s⟩ := ro
    obtain ⟨j, rfl, q⟩ := onKey.get (k := fun j => k (lookK l j)) h re
    exact ⟨a, _, _, rfl, .inl ⟨kvs, j, h1, rfl, rfl⟩, .inl ⟨kvs, h1⟩, q, (s.look (k := j)).1, (s.look (k := j)).2⟩
  | dT l =>
    obtain ⟨a, kvs, rfl, h1, s⟩ := ro
    obtain ⟨j, b, rfl, hb, _, q⟩ := onTK.get (k := fun j => k (lookT l j)) h re
    exact ⟨a, _, _, rfl, .inr ⟨kvs, j, b, h1, rfl, r.ext.at hb rfl, rfl⟩, .inr ⟨kvs, h1⟩, q, (s.look (k := j)).1, (s.look (k := j)).2⟩
  | _ => exact h.elim
theorem isD_of {z : Z} {F H : Hp} {o : D} {x : V} (h : onDct (fun _ => True) (fun _ => True) o) (ro : Rv z.n F H o x) : ∃ a, x = .ref a ∧ IsD H a := by
  cases o with
  | dK l => obtain ⟨a, kvs, rfl, h1, _⟩ := ro; exact ⟨a, rfl, .inl ⟨kvs, h1⟩⟩
  | dT l => obtain ⟨a, kvs, rfl, h1, _⟩ := ro; exact ⟨a, rfl, .inr ⟨kvs, h1⟩⟩
  | _ => exact h.elim
/-- d[k] -/
def xGet (fo : DO) (fe : DE) : DE := fun S R => fo S fun o S1 => fe S1 fun e S2 => view S2 (fun d => onAt d e (onSome fun x => R x S2)) o
/-- d.get(k) -/
def xGet1 (fo : DO) (fe : DE) : DE := fun S R => fo S fun o S1 => view S1 (onDct (fun _ => True) (fun _ => True)) o ∧ fe S1 fun e S2 => view S2 (fun d => onAt d e (fun x => R (x.getD .non) S2)) o
/-- d.get(k, x) -/
def xGet2 (fo : DO) (fe fx : DE) : DE := fun S R => fo S fun o S1 => view S1 (onDct (fun _ => True) (fun _ => True)) o ∧ fe S1 fun e S2 => fx S2 fun x S3 => view S3 (fun d => onAt d e (fun y => R (y.getD x) S3)) o
/-- k in d -/
def xIn (fe : DE) (fo : DO) : DE := fun S R => fe S fun e S1 => fo S1 fun o S2 => view S2 (fun d => onAt d e (fun x => R (.bl x.isSome) S2)) o
def xNotIn (fe : DE) (fo : DO) : DE := fun S R => fe S fun e S1 => fo S1 fun o S2 => view S2 (fun d => onAt d e (fun x => R (.bl (!x.isSome)) S2)) o
@[reducible] def onOwnD (k : Ct → Prop) : Slot → Prop
  | .own (.dK l) => k (.dK l)
  | .own (.dT l) => k (.dT l)
  | _ => False
theorem onOwnD.get {k : Ct → Prop} : ∀ {s : Slot}, onOwnD k s → ∃ c, s = .own c ∧ k c
  | .own (.dK l), h => ⟨_, rfl, h⟩
  | .own (.dT l), h => ⟨_, rfl, h⟩
  | .own (.lst _), h => h.elim
  | .free, h => h.elim
  | .val _, h => h.elim
  | .slf _ _, h => h.elim
/-- d[k] = v -/
def xPut (i : Nat) (fv fk : DE) : DS := fun E S => fv S fun d S1 => onOwnD (fun _ => fk S1 fun e S2 => onOwnD (fun c => putC c e d fun c' => E.nx (setS S2 i (.own c'))) (getS S2 i)) (getS S1 i)
theorem putC.get {n : Nm} {F H : Hp} {a : Addr} {c : Ct} {e d : D} {y v : V} {k : Ct → Prop} (x : Ext n F H) (h : putC c e d k) (hc : CtOk n F H a c) (he : Rp n F e y) (hd : Rp n F d v) : ∃ c' o, DPut H a y v (upd H a o) ∧ CtOk n F (upd H a o) a c' ∧ k c' := by
  cases c with
  | lst l => exact h.elim
  | dK l =>
    obtain ⟨j, rfl, hl, q⟩ := onKey.get (k := fun j => l.length < sizeLine ∧ k (.dK (putD l j d))) h he
    obtain ⟨kvs, e1, s⟩ := hc
    exact ⟨.dK (putD l j d), .dK (putK kvs j v), DPut.k e1 (by rw [s.len]; exact hl), ⟨_, upd_same, s.put hd⟩, q⟩
  | dT l =>
    obtain ⟨j, b, rfl, hb, _, hl, q⟩ := onTK.get (k := fun j => l.length < sizeLine ∧ k (.dT (putT l j d))) h he
    obtain ⟨kvs, e1, s⟩ := hc
    exact ⟨.dT (putT l j d), .dT (putK kvs j v), DPut.t e1 (x.at hb rfl) (by rw [s.len]; exact hl), ⟨_, upd_same, s.put hd⟩, q⟩
section
variable {X : Cx} {z : Z} {o e x value : Expr} {pos pos' apos cpos : Pos} {fo : DO} {fe fx fv fk : DE}
theorem je_xget (hu : X.A.units + 64 < cLine) (ho : JO X z o fo) (he : JE X z e fe) (hs : NoSl e) : JE X z (.Subscript o e pos) (xGet fo fe) :=
  JE.of (pe_dget (by omega) ho he hs) fun F σ H S R r hf => tO.use r hf fun v H1 F1 S1 a1 x1 r1 h1 q1 => tE.use r1 q1 fun w H2 F2 S2 d2 x2 r2 h3 q3 => by
    obtain ⟨d, rv, q4⟩ := (h1.mono x2).view r2 q3
    obtain ⟨a, ov, od, rfl, g, _, q5, g1, _⟩ := q4.get r2 rv h3
    obtain ⟨d', rfl, q6⟩ := onSome.get q5
    obtain ⟨v', rfl, hv⟩ := g1 d' rfl
    exact ⟨a, v', rfl, g, F2, S2, d', x1.trans x2, r2, hv, q6⟩
theorem je_xget1 (hu : X.A.units + 64 < cLine) (ho : JO X z o fo) (he : JE X z e fe) (hbase : attributeBase o "get" X.env (eval o X.env) = eval o X.env := by rfl)
    (hfew : ((backTo cpos (starEach [e] X.env)).all (fun x => !x.1) && (backToKw cpos (keywordEach [] X.env)).all (fun x => x.1.isSome)
      && decide (([e] : List Expr).length + ([] : List Keyword).length + (if ([] : List Keyword).isEmpty then 0 else 1) < 30)) = true := by rfl)
    (hline : (apos.endLine == cpos.line) = true := by rfl) (ht : backTo cpos (starEach [e] X.env) = [(false, eval e X.env)] := by rfl) :
    JE X z (.Call (.Attribute o "get" apos) [e] [] cpos) (xGet1 fo fe) :=
  JE.of (pe_dget1 (by omega) ho he ⟨hbase, hfew, hline, ht⟩) fun F σ H S R r hf => tO.use r hf fun v H1 F1 S1 a1 x1 r1 h1 ⟨qd, q2⟩ => by
    obtain ⟨d0, rv0, q0⟩ := h1.view r1 qd
    obtain ⟨c, rfl, hD⟩ := isD_of q0 rv0
    refine ⟨c, rfl, hD, tE.use r1 q2 fun w H2 F2 S2 d2 x2 r2 h3 q3 => ?_⟩
    obtain ⟨d, rv, q5⟩ := (h1.mono x2).view r2 q3
    obtain ⟨a, ov, od, e1, g, _, q6, g1, g2⟩ := q5.get r2 rv h3
    cases e1
    refine ⟨ov, g, F2, S2, od.getD .non, x1.trans x2, r2, ?_, q6⟩
    cases od with
    | none => rw [g2 rfl]; rfl
    | some d' => obtain ⟨v', rfl, hv⟩ := g1 d' rfl; exact hv
theorem je_xget2 (hu : X.A.units + 64 < cLine) (ho : JO X z o fo) (he : JE X z e fe) (hx : JE X z x fx) (hbase : attributeBase o "get" X.env (eval o X.env) = eval o X.env := by rfl)
    (hfew : ((backTo cpos (starEach [e, x] X.env)).all (fun x => !x.1) && (backToKw cpos (keywordEach [] X.env)).all (fun x => x.1.isSome)
      && decide (([e, x] : List Expr).length + ([] : List Keyword).length + (if ([] : List Keyword).isEmpty then 0 else 1) < 30)) = true := by rfl)
    (hline : (apos.endLine == cpos.line) = true := by rfl) (ht : backTo cpos (starEach [e, x] X.env) = [(false, eval e X.env), (false, eval x X.env)] := by rfl) :
    JE X z (.Call (.Attribute o "get" apos) [e, x] [] cpos) (xGet2 fo fe fx) :=
  JE.of (pe_dget2 (by omega) ho he hx ⟨hbase, hfew, hline, ht⟩) fun F σ H S R r hf => tO.use r hf fun v H1 F1 S1 a1 x1 r1 h1 ⟨qd, q2⟩ => by
    obtain ⟨d0, rv0, q0⟩ := h1.view r1 qd
    obtain ⟨c, rfl, hD⟩ := isD_of q0 rv0
    refine ⟨c, rfl, hD, tE.use r1 q2 fun w H2 F2 S2 d2 x2 r2 h3 q3 => tE.use r2 q3 fun u H3 F3 S3 d3 x3 r3 h4 q4 => ?_⟩
    obtain ⟨d, rv, q5⟩ := (h1.mono (x2.trans x3)).view r3 q4
    obtain ⟨a, ov, od, e1, g, _, q6, g1, g2⟩ := q5.get r3 rv (h3.mono x3)
    cases e1
    refine ⟨ov, g, F3, S3, od.getD d3, (x1.trans x2).trans x3, r3, ?_, q6⟩
    cases od with
    | none => rw [g2 rfl]; exact h4
    | some d' => obtain ⟨v', rfl, hv⟩ := g1 d' rfl; exact hv
theorem xin_use {F : Hp} {σ : L2.St} {H : Hp} {S : SS} {R : D → SS → Prop} (g : Bool → Bool) (r : Rep z F σ H S) (hf : fe S fun e S1 => fo S1 fun o S2 => view S2 (fun d => onAt d e (fun x => R (.bl (g x.isSome)) S2)) o) :
    (tE z fe) σ H fun y H1 => (tO z fo) σ H1 fun x H2 => ∃ a o, x = .ref a ∧ DGet H2 a y o ∧ PostE z F σ R (.bl (g o.isSome)) H2 :=
  tE.use r hf fun w H1 F1 S1 d1 x1 r1 h1 q1 => tO.use r1 q1 fun v H2 F2 S2 a2 x2 r2 h2 q2 => by
    obtain ⟨d, rv, q3⟩ := h2.view r2 q2
    obtain ⟨a, ov, od, rfl, w, _, q4, g1, g2⟩ := q3.get r2 rv (h1.mono x2)
    have e : ov.isSome = od.isSome := by
      cases od with
      | none => rw [g2 rfl]; rfl
      | some d' => obtain ⟨v', rfl, _⟩ := g1 d' rfl; rfl
    exact ⟨a, ov, rfl, w, F2, S2, _, x1.trans x2, r2, by rw [e], q4⟩
theorem je_xin (hu : X.A.units + 64 < cLine) (he : JE X z e fe) (ho : JO X z o fo) (hb : behindInMarks .In o = false) : JE X z (.Compare e [.In] [o] pos) (xIn fe fo) :=
  JE.of (pe_cmp (pc_din (by omega) he ho) hb) fun F σ H S R r hf => xin_use (fun b => b) r hf
theorem je_xnotin (hu : X.A.units + 64 < cLine) (he : JE X z e fe) (ho : JO X z o fo) (hb : behindInMarks .NotIn o = false) : JE X z (.Compare e [.NotIn] [o] pos) (xNotIn fe fo) :=
  JE.of (pe_cmp (pc_dnotin (by omega) he ho) hb) fun F σ H S R r hf => xin_use (fun b => !b) r hf
theorem tB_of {t : TE} {F : Hp} {σ : L2.St} {H : Hp} {R : Bool → SS → Prop} (hm : ∀ Q Q' : VK, (∀ v H', Q v H' → Q' v H') → t σ H Q → t σ H Q') (h : t σ H (PostE z F σ fun d S' => onB (fun b => R b S') d)) : tB t σ H (PostT z F σ R) := by
  refine hm _ _ (fun v H' ⟨F', S', d, x, r, h', q⟩ => ?_) h
  obtain ⟨b, rfl, q⟩ := onB.get q
  exact ⟨b, h', F', S', x, r, q⟩
theorem jt_of {f : DE} (h : JE X z e f) (he : ∀ whole, isTrue e X.env whole = (do let v ← whole; standAt e.pos; holding [v] (truthy v)) := by intro _; rfl) : JT X z e (dTB f) := jt_val h he
theorem din_mono {σ : L2.St} {H : Hp} {Q Q' : VK} {g : Bool → Bool} (k : ∀ v H', Q v H' → Q' v H') (h : (tE z fe) σ H fun y H1 => (tO z fo) σ H1 fun x H2 => ∃ a o, x = .ref a ∧ DGet H2 a y o ∧ Q (.bl (g o.isSome)) H2) :
    (tE z fe) σ H fun y H1 => (tO z fo) σ H1 fun x H2 => ∃ a o, x = .ref a ∧ DGet H2 a y o ∧ Q' (.bl (g o.isSome)) H2 := by
  obtain ⟨F0, S0, R0, r0, h0, k0⟩ := h
  refine ⟨F0, S0, R0, r0, h0, fun v H' hp => ?_⟩
  obtain ⟨F1, S1, R1, r1, h1, k1⟩ := k0 v H' hp
  refine ⟨F1, S1, R1, r1, h1, fun x H2 hp2 => ?_⟩
  obtain ⟨a, ov, e1, w, q⟩ := k1 x H2 hp2
  exact ⟨a, ov, e1, w, k _ _ q⟩
theorem jt_xin (hu : X.A.units + 64 < cLine) (he : JE X z e fe) (ho : JO X z o fo) (hb : behindInMarks .In o = false) : JT X z (.Compare e [.In] [o] pos) (dTB (xIn fe fo)) :=
  JT.of (pt_cmp (pc_din (by omega) he ho) hb) fun F σ H S R r hf => tB_of (fun Q Q' k h => din_mono (g := fun b => b) k h) (xin_use (fun b => b) r hf)
theorem jt_xnotin (hu : X.A.units + 64 < cLine) (he : JE X z e fe) (ho : JO X z o fo) (hb : behindInMarks .NotIn o = false) : JT X z (.Compare e [.NotIn] [o] pos) (dTB (xNotIn fe fo)) :=
  JT.of (pt_cmp (pc_dnotin (by omega) he ho) hb) fun F σ H S R r hf => tB_of (fun Q Q' k h => din_mono (g := fun b => !b) k h) (xin_use (fun b => !b) r hf)
theorem js_xput {i : Nat} (hu : X.A.units + 64 < cLine) (ho : PE X o (tVar i)) (hk : JE X z e fk) (hv : JE X z value fv) (hs : swapsWith value (some (.Subscript o e pos')) pos.line X.env = pure false := by rfl) :
    JS X z (.Assign [.Subscript o e pos'] value pos) (xPut i fv fk) :=
  JS.of (ps_dput (by omega) ho hk hv hs) fun F σ H S E r hf => tE.use r hf fun v H1 F1 S1 d1 x1 r1 h1 q1 => by
    obtain ⟨c0, g0, q2⟩ := onOwnD.get q1
    have g1 := getS_some g0 (by intro x; cases x)
    obtain ⟨a, e1, f1, n1, c1⟩ := r1.sl i _ g1
    refine ⟨.ref a, e1, tE.use r1 q2 fun w H2 F2 S2 d2 x2 r2 h2 q3 => ?_⟩
    obtain ⟨c, g2, q4⟩ := onOwnD.get q3
    have g4 := getS_some g2 (by intro x; cases x)
    obtain ⟨a', e2, f2, n2, c2⟩ := r2.sl i _ g4
    rw [e1] at e2; cases e2
    obtain ⟨c', o', put, hc', q5⟩ := putC.get r2.ext q4 c2 h2 (h1.mono x2)
    exact ⟨a, _, rfl, put, F2, _, x1.trans x2, r2.write (c' := c') g4 e1 hc', q5⟩
end
def fDNewT : DF := fun S R => R (.dT []) S
theorem jf_dnewT {X : Cx} {z : Z} {pos : Pos} : JF X z (.Dict [] [] pos) fDNewT := JF.of pe_dnewT fun F σ H S R r hf p hp => by
  obtain ⟨r2, fr⟩ := r.fresh (c := .dT []) (o := .dT []) hp ⟨[], upd_same, rfl⟩
  exact ⟨F, S, .dT [], p, rfl, Ext.refl, r2, fr, hf⟩
/-- tuples that stand join the known part -/
theorem tups_join {n : Nm} : ∀ {ks : List TKey} {bs : List Addr} {F H : Hp}, Paired (fun (k : TKey) (b : Addr) => H b = some (.tup (k.map kV))) ks bs → Ext n F H → ∃ F', Ext n F F' ∧ Ext n F' H ∧ (∀ a o, F' a = some o → Nw F H a o) ∧ Rps n F' (ks.map keyT) (bs.map V.ref)
  | _, _, F, H, .nil, x => ⟨F, Ext.refl, x, fun a o h => .inl ⟨o, h⟩, rfl⟩
  | k :: ks, b :: bs, F, H, .cons h t, x => by
    obtain ⟨F1, y1, y2, y3, y4⟩ := tups_join t x
    obtain ⟨z1, z2, z3⟩ := tup_joins y2 h
    refine ⟨upd F1 b (.tup (k.map kV)), y1.trans z1, z2, fun a o ha => ?_, ⟨.ref b, bs.map V.ref, rfl, ⟨b, _, rfl, upd_same, keys_rps⟩, y4.mono z1⟩⟩
    rcases z3 a o ha with ⟨o0, q⟩ | q | ⟨xs, rfl, q⟩
    · rcases y3 a o0 q with w | w | ⟨ys, rfl, w⟩
      · exact .inl w
      · exact .inr (.inl w)
      · by_cases e : a = b
        · subst e
          rw [h] at w; cases w
          rw [upd_same] at ha; cases ha
          exact .inr (.inr ⟨_, rfl, h⟩)
        · rw [upd_ne e] at ha
          rw [q] at ha; cases ha
          exact .inr (.inr ⟨_, rfl, w⟩)
    · exact .inr (.inl q)
    · exact .inr (.inr ⟨_, rfl, q⟩)
def fListD (fo : DO) : DF := fun S R => fo S fun o S1 => view S1 (fun d => match d with
  | .dT l => R (.lst (l.map fun p => keyT p.1)) S1
  | _ => False) o
theorem jf_listD {X : Cx} {z : Z} {a : Expr} {p pos : Pos} {fo : DO} (hc : X.calm = true) (hg : Gl X "list") (hm : X.mg "list" = none) (ha : JO X z a fo) (hv : bootBuiltins "list" = some (.type "list") := by decide +kernel)
    (he : starEach [a] X.env = (false, eval a X.env) :: starEach [] X.env := by rfl) (hpl : (backTo pos (starEach [] X.env)).any (·.1) = false := by rfl) : JF X z (.Call (.Name "list" p) [a] [] pos) (fListD fo) :=
  JF.of (pe_callTy (call_list_dT hc) hg hm hv (pa_cons ha pa_nil he) (he := he) (hpl := hpl)) fun F σ H S R r hf => tO.use r hf fun v H1 F1 S1 a1 x1 r1 h1 q1 => by
    obtain ⟨d, rv, q0⟩ := h1.view r1 q1
    cases d with
    | dT l =>
      obtain ⟨c, kvs, rfl, h2, s1⟩ := rv
      refine ⟨c, kvs, rfl, h2, fun t bs ht hk => ?_⟩
      have hk2 : Paired (fun (k : TKey) (b : Addr) => H1 b = some (.tup (k.map kV))) (l.map (·.1)) bs := by
        rw [← s1.keys]
        unfold IsKeys at hk
        clear s1 h2 ht q0
        induction hk with
        | nil => exact .nil
        | cons h _ ih => exact .cons h ih
      obtain ⟨F', y1, y2, y3, y4⟩ := tups_join hk2 r1.ext
      have r2 := r1.grow y1 y3 (fun _ _ h => h) y2
      have e : (l.map (·.1)).map keyT = l.map fun p => keyT p.1 := by rw [List.map_map]; rfl
      obtain ⟨r3, fr⟩ := r2.fresh (c := .lst (l.map fun p => keyT p.1)) (o := .lst (bs.map V.ref)) ht ⟨_, upd_same, e ▸ y4⟩
      exact ⟨F', S1, _, t, rfl, x1.trans y1, r3, fr, q0⟩
    | _ => exact q0.elim
/-- the keys, whole numbers -/
@[reducible] def onIK (k : List Int → Prop) : List (Key × D) → Prop
  | [] => k []
  | (.inl i, _) :: r => onIK (fun l => k (i :: l)) r
  | _ => False
theorem onIK.get {k : List Int → Prop} : ∀ {l : List (Key × D)}, onIK k l → ∃ ns : List Int, l.map (·.1) = ns.map Sum.inl ∧ k ns
  | [], h => ⟨[], rfl, h⟩
  | (.inl i, d) :: r, h => by
    obtain ⟨ns, e, q⟩ := onIK.get (k := fun l => k (i :: l)) h
    exact ⟨i :: ns, by simp [e], q⟩
  | (.inr s, d) :: r, h => h.elim
end DL

namespace DL
open PySem L2 PySem.Spec PyProof.Rows PySem.SeqAt
theorem gok_more {K : PySem.W.Frag} {g : TG} {gd : DG} {vs ws : List Nat} (a : GOk K g gd vs) (h : ∀ i ∈ vs, i ∈ ws) : GOk K g gd ws :=
  ⟨fun hz p r hr q k => a.ok hz (fun i hi => p i (h i hi)) r hr q fun σ' S' r' q' o l => k σ' S' r' q' (fun j hj => o j fun e => hj (h j e)) l⟩
section
variable {X : Cx} {z : Z} {kx tg iter tg1 iter1 : Expr} {ifs ifs1 : List Expr} {scope : Scope} {own own1 : List (Str × Nat)} {pos : Pos} {w w1 : DI} {g g1 : TG} {gd gd1 : DG} {t t1 : DT} {f : DE}
theorem lc2_use (hz : z.n.K = X.K) (hgo : GOk X.K g gd (own.map (·.2))) (hp : ∀ i ∈ own.map (·.2), z.pr i = none) (sub : ∀ i ∈ own1.map (·.2), i ∈ own.map (·.2)) (hgo1 : GOk X.K g1 gd1 (own1.map (·.2)))
    {F : Hp} {σ : L2.St} {H : Hp} {S : SS} {R : Ct → SS → Prop} (r : Rep z F σ H S) (hf : fDc (.lst []) w gd t (bIn w1 gd1 t1 (bApp f) (own1.map (·.2))) (own.map (·.2)) S R) {Q : VK} (kQ : ∀ v H', PostF z F σ R v H' → Q v H') :
    tLc2 (tI z w) g (tTx z.n z.pr t) (tIx z.n z.pr w1) g1 (tTx z.n z.pr t1) (tEx z.n z.pr f) (own.map (·.2)) (own1.map (·.2)) σ H Q :=
  ⟨F, S, _, r, hf, fun J H1 ⟨F1, S1, l, x1, r1, iok, q⟩ D nD => by
    obtain ⟨r2, fr⟩ := r1.fresh (c := .lst []) (o := .lst []) nD ⟨[], upd_same, rfl⟩
    exact tn_use hz hgo hp (body_in hz hgo1 (fun i hi => hp i (sub i hi)) body_app) r2 fr iok q fun F' H' S' c' x r f q => kQ _ _ ⟨F', S', c', D, rfl, x1.trans x, r, f, q⟩⟩
theorem js_setLc2F {i : Nat} {y : Str} {py spos : Pos} (hz : z.n.K = X.K) (hc : X.calm = true) (hN : X.N.Nodup) (hy : X.N[i]? = some y) (hyl : X.env.scope.names.lookup y = some .local) (pi : z.pr i = none)
    (hsw : swapsWith (.ListComp kx [⟨tg, iter, ifs, 0⟩, ⟨tg1, iter1, ifs1, 0⟩] scope pos) (some (.Name y py)) spos.line X.env = pure true) (hi : JI X z tg iter w) (ok : BlkOk X.N X.env.scope scope own) (sub : ∀ i ∈ own1.map (·.2), i ∈ own.map (·.2))
    (hg : ∀ (s : Shared) (H : Hp) (C : Addr) (cl : List (Str × Addr)) (fp : List Addr), PG (X.blk s H scope (compEnvC scope cl C X.env) fp) tg g) (hgo : GOk X.K g gd (own.map (·.2))) (hp : ∀ i ∈ own.map (·.2), z.pr i = none)
    (ht : ∀ (F0 H0 : Hp) (s : Shared) (H : Hp) (C : Addr) (cl : List (Str × Addr)) (fp : List Addr), JTs (X.blk s H scope (compEnvC scope cl C X.env) fp) ⟨z.n, F0, H0, z.pr⟩ ifs t)
    (hi1 : ∀ (F0 H0 : Hp) (s : Shared) (H : Hp) (C : Addr) (cl : List (Str × Addr)) (fp : List Addr), JI (X.blk s H scope (compEnvC scope cl C X.env) fp) ⟨z.n, F0, H0, z.pr⟩ tg1 iter1 w1)
    (hg1 : ∀ (s : Shared) (H : Hp) (C : Addr) (cl : List (Str × Addr)) (fp : List Addr), PG (X.blk s H scope (compEnvC scope cl C X.env) fp) tg1 g1) (hgo1 : GOk X.K g1 gd1 (own1.map (·.2)))
    (ht1 : ∀ (F0 H0 : Hp) (s : Shared) (H : Hp) (C : Addr) (cl : List (Str × Addr)) (fp : List Addr), JTs (X.blk s H scope (compEnvC scope cl C X.env) fp) ⟨z.n, F0, H0, z.pr⟩ ifs1 t1)
    (he : ∀ (F0 H0 : Hp) (s : Shared) (H : Hp) (C : Addr) (cl : List (Str × Addr)) (fp : List Addr), JE (X.blk s H scope (compEnvC scope cl C X.env) fp) ⟨z.n, F0, H0, z.pr⟩ kx f)
    (hs : ∀ x, foldedSetIterable iter X.env x = pure x := by intro _; rfl) (hs1 : ∀ env x, foldedSetIterable iter1 env x = pure x := by intro _ _; rfl) :
    JS X z (.Assign [.Name y py] (.ListComp kx [⟨tg, iter, ifs, 0⟩, ⟨tg1, iter1, ifs1, 0⟩] scope pos) spos) (dAsgF i (fDc (.lst []) w gd t (bIn w1 gd1 t1 (bApp f) (own1.map (·.2))) (own.map (·.2)))) :=
  JS.of (ps_setLc2 (vs1 := own1.map (·.2)) hc hN hy hyl hsw hi ok sub hg (fun s H C cl fp => PTs.ex fun F0 H0 => ht F0 H0 s H C cl fp) (fun s H C cl fp => PI.ex fun F0 H0 => hi1 F0 H0 s H C cl fp) hg1 (fun s H C cl fp => PTs.ex fun F0 H0 => ht1 F0 H0 s H C cl fp) (fun s H C cl fp => PE.ex fun F0 H0 => he F0 H0 s H C cl fp) hs hs1) fun F σ H S E r hf =>
    lc2_use hz hgo hp sub hgo1 r hf (Q := fun x H1 => gName i x σ H1 (endsOf z F E).nx) fun v H' ⟨F', S', c, a, e, x, r', fr, q⟩ => by
      subst e
      exact ⟨F', _, x, r'.setOwn pi fr, q⟩
/-- the name holds the new list as a value -/
def dAsgL (i : Nat) (f : DF) : DS := fun E S => f S fun c S' => onCL (fun l => E.nx (setS S' i (.val (.lst l)))) c
theorem onCL.get {k : List D → Prop} : ∀ {c : Ct}, onCL k c → ∃ l, c = .lst l ∧ k l
  | .lst l, h => ⟨l, rfl, h⟩
  | .dK _, h => h.elim
  | .dT _, h => h.elim
theorem js_setLc2 {i : Nat} {y : Str} {py spos : Pos} (hz : z.n.K = X.K) (hc : X.calm = true) (hN : X.N.Nodup) (hy : X.N[i]? = some y) (hyl : X.env.scope.names.lookup y = some .local) (pi : z.pr i = none)
    (hsw : swapsWith (.ListComp kx [⟨tg, iter, ifs, 0⟩, ⟨tg1, iter1, ifs1, 0⟩] scope pos) (some (.Name y py)) spos.line X.env = pure true) (hi : JI X z tg iter w) (ok : BlkOk X.N X.env.scope scope own) (sub : ∀ i ∈ own1.map (·.2), i ∈ own.map (·.2))
    (hg : ∀ (s : Shared) (H : Hp) (C : Addr) (cl : List (Str × Addr)) (fp : List Addr), PG (X.blk s H scope (compEnvC scope cl C X.env) fp) tg g) (hgo : GOk X.K g gd (own.map (·.2))) (hp : ∀ i ∈ own.map (·.2), z.pr i = none)
    (ht : ∀ (F0 H0 : Hp) (s : Shared) (H : Hp) (C : Addr) (cl : List (Str × Addr)) (fp : List Addr), JTs (X.blk s H scope (compEnvC scope cl C X.env) fp) ⟨z.n, F0, H0, z.pr⟩ ifs t)
    (hi1 : ∀ (F0 H0 : Hp) (s : Shared) (H : Hp) (C : Addr) (cl : List (Str × Addr)) (fp : List Addr), JI (X.blk s H scope (compEnvC scope cl C X.env) fp) ⟨z.n, F0, H0, z.pr⟩ tg1 iter1 w1)
    (hg1 : ∀ (s : Shared) (H : Hp) (C : Addr) (cl : List (Str × Addr)) (fp : List Addr), PG (X.blk s H scope (compEnvC scope cl C X.env) fp) tg1 g1) (hgo1 : GOk X.K g1 gd1 (own1.map (·.2)))
    (ht1 : ∀ (F0 H0 : Hp) (s : Shared) (H : Hp) (C : Addr) (cl : List (Str × Addr)) (fp : List Addr), JTs (X.blk s H scope (compEnvC scope cl C X.env) fp) ⟨z.n, F0, H0, z.pr⟩ ifs1 t1)
    (he : ∀ (F0 H0 : Hp) (s : Shared) (H : Hp) (C : Addr) (cl : List (Str × Addr)) (fp : List Addr), JE (X.blk s H scope (compEnvC scope cl C X.env) fp) ⟨z.n, F0, H0, z.pr⟩ kx f)
    (hs : ∀ x, foldedSetIterable iter X.env x = pure x := by intro _; rfl) (hs1 : ∀ env x, foldedSetIterable iter1 env x = pure x := by intro _ _; rfl) :
    JS X z (.Assign [.Name y py] (.ListComp kx [⟨tg, iter, ifs, 0⟩, ⟨tg1, iter1, ifs1, 0⟩] scope pos) spos) (dAsgL i (fDc (.lst []) w gd t (bIn w1 gd1 t1 (bApp f) (own1.map (·.2))) (own.map (·.2)))) :=
  JS.of (ps_setLc2 (vs1 := own1.map (·.2)) hc hN hy hyl hsw hi ok sub hg (fun s H C cl fp => PTs.ex fun F0 H0 => ht F0 H0 s H C cl fp) (fun s H C cl fp => PI.ex fun F0 H0 => hi1 F0 H0 s H C cl fp) hg1 (fun s H C cl fp => PTs.ex fun F0 H0 => ht1 F0 H0 s H C cl fp) (fun s H C cl fp => PE.ex fun F0 H0 => he F0 H0 s H C cl fp) hs hs1) fun F σ H S E r hf =>
    lc2_use hz hgo hp sub hgo1 r hf (Q := fun x H1 => gName i x σ H1 (endsOf z F E).nx) fun v H' ⟨F', S', c, a, e, x, r', fr, q⟩ => by
      subst e
      obtain ⟨l, rfl, q⟩ := onCL.get q
      obtain ⟨xs, e1, q1⟩ := fr.ct
      exact ⟨upd F' a (.lst xs), _, x.trans (Ext.new fr.out), (r'.join e1 fr.out fr.new fr.ne).setVal (d := .lst l) pi ⟨a, xs, rfl, upd_same, q1.mono (Ext.new fr.out)⟩, q⟩
end
def fRevL (fo : DO) : DF := fun S R => fo S fun o S1 => view S1 (onL fun l => R (.lst l.reverse) S1) o
theorem jf_revL {X : Cx} {z : Z} {e : Expr} {fo : DO} {k : Nat} {p1 p2 p3 pos : Pos} (he : JO X z e fo) : JF X z (.Subscript e (.Slice none none (some (.UnaryOp .USub (.Constant (.int 1) k p1) p2)) p3) pos) (fRevL fo) :=
  JF.of (pe_revL he) fun F σ H S R r hf => tO.use r hf fun v H1 F1 S1 a1 x1 r1 h1 q1 => by
    obtain ⟨d, rv, q2⟩ := h1.view r1 q1
    obtain ⟨l, rfl, q3⟩ := onL.get q2
    obtain ⟨a, xs, rfl, h2, s1⟩ := rv
    refine ⟨a, xs, rfl, SqL.of h2, fun p hp => ?_⟩
    obtain ⟨r2, fr⟩ := r1.fresh (c := .lst l.reverse) (o := .lst xs.reverse) hp ⟨_, upd_same, s1.reverse⟩
    exact ⟨F1, S1, _, p, rfl, x1, r2, fr, q3⟩
def wRevR1 (f : DE) : DI := fun S R => f S fun d S' => onI (fun j => j < 2 ^ 62 ∧ -(2 ^ 62) ≤ j ∧ R (rng 0 j.toNat).reverse S') d
theorem rngC_rev {m : Nat} : rngC (0 + ((m : Nat) : Int) - 1) (-1) m = (rng 0 m).reverse := by
  apply List.ext_getElem
  · simp [rngC, rng]
  · intro i h1 h2
    simp [rngC, rng] at h1 ⊢
    omega
theorem ji_revR1 {X : Cx} {z : Z} {tg a : Expr} {f : DE} {p pos p2 pos2 : Pos} (hg : Gl X "reversed") (hm : X.mg "reversed" = none) (hg2 : Gl X "range") (hm2 : X.mg "range" = none) (h : JE X z a f) (hs : starEach [a] X.env = (false, eval a X.env) :: starEach [] X.env := by rfl)
    (hs2 : starEach [.Call (.Name "range" p2) [a] [] pos2] X.env = (false, eval (.Call (.Name "range" p2) [a] [] pos2) X.env) :: starEach [] X.env := by rfl) :
    JI X z tg (.Call (.Name "reversed" p) [.Call (.Name "range" p2) [a] [] pos2] [] pos) (wRevR1 f) :=
  JI.of (pi_revR hg hm (prg_1 hg2 hm2 h hs) hs2) fun F σ H S Rw r hf => tE.use r hf fun v H1 F1 S1 d x1 r1 h1 q => by
    obtain ⟨j, rfl, q1, q2, q3⟩ := onI.get q
    refine ⟨j, by rw [show v = .int j from h1], by decide, by decide, q2, q1, F1, S1, _, x1, r1, itc_ok, ?_⟩
    have e : (j - 0).toNat = j.toNat := by rw [Int.sub_zero]
    rw [e, rngC_rev]
    exact q3
def tDisp1 (o0 : HO) (tk tv : TE) : TE := fun σ H Q => ∀ p, H p = none → tk σ (upd H p o0) fun y H1 => tv σ H1 fun u H2 => ∃ H3, DPut H2 p y u H3 ∧ Q (.ref p) H3
theorem pe_disp1 {X : Cx} {k v : Expr} {pos : Pos} {tk tv : TE} {o0 : HO} (ho : o0 = .dK [] ∨ o0 = .dT []) (hu : X.A.units + 1 < cLine) (hk : PE X k tk) (hv : PE X v tv) : PE X (.Dict [some k] [v] pos) (tDisp1 o0 tk tv) := ⟨fun pins s σ H Q I h => by
  have nD : H s.heap.objs.size = none := I.hok.fresh (Nat.le_refl _)
  have I1 : Inv X pins σ (upd H s.heap.objs.size o0) { s with heap := s.heap.push { cls := .type "dict", data := .dict #[] } } := by
    refine I.laid (t' := s.toks) (fun b o e => Heap.get?_push_of_some _ e) (Nat.le_refl _) ?_
    rcases ho with rfl | rfl
    · exact dk_empty s.heap I.big
    · exact dt_empty s.heap I.big
  rw [arm_eval_Dict, zip_pairTrees [some k] [v] X.env pos rfl rfl, dictDisplay_pairs _ (by intro e; cases e) (by exact Nat.lt_of_sub_eq_succ rfl)]
  refine wpAny_bind (wpAny_standAt (wpAny_bind ?_))
  unfold subDict
  refine wpAny_bind (wpAny_alloc ?_)
  refine wpAny_bind (wpAny_holding ?_)
  rw [if_pos (show (pairTrees [some k] [v] X.env pos).length ≤ 15 from (by decide : (1 : Nat) ≤ 15))]
  refine wpAny_bind (pairTrees_cons_walk (thn (hk.run pins _ σ _ _ I1 (h _ nD)) fun a s1 ⟨y, H1, I1, ry, q1⟩ => thn (hv.run pins s1 σ H1 _ I1 q1) fun b s2 ⟨u, H2, I2, ru, H3, put, q⟩ => pairTrees_nil_walk ?_))
  refine wpAny_holding ?_
  rw [List.forIn_cons]
  refine wpAny_bind (wpAny_bind (wpAny_bind (dset_any hu I2 put ry ru fun s3 I3 => wpAny_pure ?_)))
  dsimp only
  rw [List.forIn_nil]
  exact wpAny_pure (wpAny_pure (wpAny_pure (wpAny_pure ⟨.ref _, H3, I3, rfl, q⟩)))⟩
def fDisp1 (c0 : Ct) (fk fv : DE) : DF := fun S R => bPut fk fv c0 S R
theorem jf_disp1 {X : Cx} {z : Z} {k v : Expr} {pos : Pos} {fk fv : DE} {c0 : Ct} {o0 : HO} (ho : EmpD c0 o0) (hu : X.A.units + 64 < cLine) (hk : ∀ F0 H0, JE X ⟨z.n, F0, H0, z.pr⟩ k fk) (hv : ∀ F0 H0, JE X ⟨z.n, F0, H0, z.pr⟩ v fv) : JF X z (.Dict [some k] [v] pos) (fDisp1 c0 fk fv) :=
  JF.of (pe_disp1 ho.o (by omega) (PE.ex hk) (PE.ex hv)) fun F σ H S R r hf p hp => by
    obtain ⟨r2, fr⟩ := r.fresh (c := c0) (o := o0) hp (ho.ct upd_same)
    exact body_put.ok r2 fr hf fun F' H' S' c' x r f q => ⟨F', S', c', p, rfl, x, r, f, q⟩
end DL

namespace DL
open PySem L2 PySem.Spec PyProof.Rows PySem.SeqAt
theorem storedH_len {K : Type} [DecidableEq K] (xs : List (K × Addr × Value)) (k : K) (a : Addr) (v : Value) : (storedH xs k a v).length ≤ xs.length + 1 := by
  unfold storedH
  split <;> simp
abbrev TP := TKey × Addr × Value
def mergedT (acc : List TP) (more : List TP) : List TP := more.foldl (fun m q => storedH m q.1 q.2.1 q.2.2) acc
theorem keyAt_keeps {P : Program} {w : World} {h h' : Heap} {ks : TKey} {a : Addr} (x : (tupleKind (mixKind P w)).is h ks a) (k : ∀ o, h.get? a = some o → h'.get? a = some o) : (tupleKind (mixKind P w)).is h' ks a := by
  obtain ⟨o, its, n, h1, r⟩ := x
  exact ⟨o, its, n, k o h1, r⟩
section
variable {P : Program} {w : World} {A : Around} {E : Value → Shared → Prop}
theorem dictOfH_keeps {h h' : Heap} {d : Addr} {xs : List TP} (x : h.DictOfH (tupleKind (mixKind P w)) d xs) (kd : ∀ o, h.get? d = some o → h'.get? d = some o) (kk : ∀ q ∈ xs, ∀ o, h.get? q.2.1 = some o → h'.get? q.2.1 = some o) : h'.DictOfH (tupleKind (mixKind P w)) d xs := by
  obtain ⟨o, es, ep, h1, h2, h3, h4, h5, h6⟩ := x
  exact ⟨o, es, ep, kd o h1, h2, h3, h4, fun q hq => keyAt_keeps (h5 q hq) (kk q hq), h6⟩
/-- one pair: its tuple, its key's own tuple -/
structure PrT (P : Program) (w : World) (h : Heap) (S I b : Addr) (q : TP) : Prop where
  tup : IsTup h b #[.ref q.2.1, q.2.2]
  key : (tupleKind (mixKind P w)).is h q.1 q.2.1
  b1 : b ≠ S
  b2 : b ≠ I
  k1 : q.2.1 ≠ S
  k2 : q.2.1 ≠ I
theorem PrT.keeps {h h' : Heap} {S I b : Addr} {q : TP} (x : PrT P w h S I b q) (k : ∀ c o, c ≠ S → c ≠ I → h.get? c = some o → h'.get? c = some o) : PrT P w h' S I b q := by
  obtain ⟨o, ho, r⟩ := x.tup
  exact ⟨⟨o, k b o x.b1 x.b2 ho, r⟩, keyAt_keeps x.key fun o ho => k _ o x.k1 x.k2 ho, x.b1, x.b2, x.k1, x.k2⟩
theorem pairs_loop {R : Result → Shared → Prop} {S I l : Addr} {items : Array Value} {res : Value} (hu : A.units + 1 < cLine) (quiet : A.handled = none) (hlI : l ≠ I) (hSI : S ≠ I) (hSl : S ≠ l) :
    ∀ (rest : List TP) (i : Nat) (acc : List TP) (ix : Int) (t : Tok) (s : Shared), items.size = i + rest.length → acc.length + rest.length ≤ sizeLine → (∀ q ∈ acc, q.2.1 ≠ S ∧ q.2.1 ≠ I) →
      (∀ (j : Nat) (q : TP), rest[j]? = some q → ∃ b, items[i + j]? = some (.ref b) ∧ PrT P w s.heap S I b q) →
      s.heap.IsListIter I l i → s.heap.IsList l items → s.heap.DictOfH (tupleKind (mixKind P w)) S acc →
      (∀ h' tk, h'.DictOfH (tupleKind (mixKind P w)) S (mergedT acc rest) → (∀ b o, b ≠ S → b ≠ I → s.heap.get? b = some o → h'.get? b = some o) → R (.ok (.ret res)) { s with heap := h', toks := tk }) →
      codeAny (model P w) A (.builtin "dict.update.loop" ⟨[.ref S, .ref I, .int ix t, res], []⟩) R s
  | [], i, acc, ix, t, s, size, _, away, _, it, isl, d, fin => by
    refine codeAny_builtin ud_entry ?_
    rw [Around.under_plainId ud_plain _]
    show wpAny _ A.in1 (pyNext (.ref I) >>= _) _ _ s
    refine wpAny_bind (wpAny_pyNext_list_end (A := A.in1) quiet it isl (Array.getElem?_eq_none (by simp at size; omega)) fun h' but => ?_)
    show wpAny _ A.in1 (Builtin.Dict.addKeywords S [] >>= _) _ _ _
    refine wpAny_bind (wpAny_pure (wpAny_pure (fin h' s.toks ?_ fun b o _ hb e => but b o hb e)))
    exact dictOfH_keeps d (fun o e => but S o hSI e) fun q hq o e => but _ o (away q hq).2 e
  | q :: rest, i, acc, ix, t, s, size, room, away, have_, it, isl, d, fin => by
    obtain ⟨b, hb, pr⟩ := have_ 0 q rfl
    rw [List.length_cons] at size room
    refine codeAny_builtin ud_entry ?_
    rw [Around.under_plainId ud_plain _]
    show wpAny _ A.in1 (pyNext (.ref I) >>= _) _ _ s
    refine wpAny_bind (wpAny_pyNext_list_item (x := .ref b) it isl (by simpa using hb) fun h1 it1 same1 => ?_)
    have k1 : ∀ c o, c ≠ I → s.heap.get? c = some o → h1.get? c = some o := fun c o hc e => same1.extBut c o hc e
    have pr1 := pr.keeps fun c o _ hc e => k1 c o hc e
    have isl1 : h1.IsList l items := isl.extBut same1.extBut hlI
    have d1 := dictOfH_keeps d (fun o e => k1 S o hSI e) fun q hq o e => k1 _ o (away q hq).2 e
    obtain ⟨o, ho, hc, n, hd⟩ := pr1.tup
    show wpAny _ A.in1 (holding [Value.ref b] _ >>= _) _ _ _
    refine wpAny_bind (wpAny_holding (wpAny_bind (wpAny_tryCatch ?_)))
    unfold Builtin.Dict.pairItems
    refine wpAny_bind (wpAny_typeOf (T := "tuple") ⟨o, ho, hc⟩ ?_)
    rw [if_pos (by first | decide | rfl | simp)]
    refine wpAny_bind (wpAny_seqItems ho hd (wpAny_pure ?_))
    show wpAny _ A.in1 (holding [.ref q.2.1, q.2.2] (dictSet S (.ref q.2.1) q.2.2)) _ _ _
    refine wpAny_holding (wpAny_dictSet_heap (knd := tupleKind (mixKind P w)) (k := q.1) (show A.units + 1 < cLine from hu) pr1.key d1 (fun h2 d2 same2 => ?_) (by omega))
    have k2 : ∀ c o, c ≠ S → c ≠ I → s.heap.get? c = some o → h2.get? c = some o := fun c o h3 h4 e => same2.extBut c o h3 (k1 c o h4 e)
    have len := storedH_len acc q.1 q.2.1 q.2.2
    refine wpAny_pure ⟨plainId_quiet ud_plain _, pairs_loop (items := items) hu quiet hlI hSI hSl rest (i + 1) (storedH acc q.1 q.2.1 q.2.2) (ix + 1) 0 _ (show items.size = i + 1 + rest.length by omega) (by omega) (fun r hr => ?_) (fun j q' e => ?_) ?_ ?_ d2 fun h' tk dd kk => ?_⟩
    · unfold storedH at hr
      split at hr
      · obtain ⟨r0, hr0, e⟩ := List.mem_map.mp hr
        have : r.2.1 = r0.2.1 := by
          rw [← e]
          unfold putAt
          split <;> rfl
        rw [this]; exact away r0 hr0
      · rcases List.mem_append.mp hr with hr | hr
        · exact away r hr
        · rw [List.mem_singleton.mp hr]; exact ⟨pr.k1, pr.k2⟩
    · obtain ⟨b', hb', pr'⟩ := have_ (j + 1) q' (by simpa using e)
      exact ⟨b', by rw [show i + 1 + j = i + (j + 1) by omega]; exact hb', pr'.keeps k2⟩
    · exact it1.at fun o' e => same2.extBut I o' (Ne.symm hSI) e
    · exact isl1.extBut same2.extBut (Ne.symm hSl)
    · exact fin h' tk dd fun c oc h3 h4 e => kk c oc h3 h4 (k2 c oc h3 h4 e)
/-- dict(l), l a list of pairs by tuples -/
theorem call_pairsT {s : Shared} {l : Addr} {ol : Obj} {items : Array Value} {n : Nat} {prs : List TP} {Q : Value → Shared → Prop} (hu : A.units + 64 < cLine) (quiet : A.handled = none) (hl : s.heap.get? l = some ol) (hc : ol.cls = .type "list") (hd : ol.dict = none)
    (hdat : ol.data = .seq items n) (size : items.size = prs.length) (room : prs.length ≤ sizeLine)
    (have_ : ∀ (j : Nat) (q : TP), prs[j]? = some q → ∃ b, items[j]? = some (.ref b) ∧ IsTup s.heap b #[.ref q.2.1, q.2.2] ∧ (tupleKind (mixKind P w)).is s.heap q.1 q.2.1)
    (fin : ∀ h' tk, h'.DictOfH (tupleKind (mixKind P w)) s.heap.objs.size (mergedT [] prs) → (∀ b o, s.heap.get? b = some o → h'.get? b = some o) → Q (.ref s.heap.objs.size) { s with heap := h', toks := tk }) :
    wpAny (model P w) A (call (.type "dict") [.ref l]) Q E s := by
  refine callType_codes (Q₁ := fun obj s1 => obj = .ref s.heap.objs.size ∧ s1 = { s with heap := s.heap.push { cls := .type "dict", data := .dict #[] } }) PySem.F.kt_called_dict (PySem.F.kt_typeCall_dict_1 _) PySem.F.entry_dict_init (kt_code_dict_new _ ⟨rfl, rfl⟩) ?_
  rintro obj s1 ⟨rfl, rfl⟩
  have new : (s.heap.push { cls := .type "dict", data := .dict #[] }).DictOfH (tupleKind (mixKind P w)) s.heap.objs.size [] := Heap.DictOfH.new s.heap
  have k0 : ∀ b o, s.heap.get? b = some o → (s.heap.push { cls := .type "dict", data := .dict #[] }).get? b = some o := fun b o e => Heap.get?_push_of_some _ e
  have ty : Shared.TypeIs { s with heap := s.heap.push { cls := .type "dict", data := .dict #[] } } (.ref s.heap.objs.size) "dict" := ⟨_, Heap.get?_push_size _ rfl, rfl⟩
  refine ⟨ty, PySem.F.args_dict_init_2 _ _, ?_⟩
  unfold Builtin.«dict.__init__»
  refine wpAny_bind ?_
  unfold Builtin.Dict.selfAndRest
  refine wpAny_bind (wpAny_notOrdered_dict ty ?_)
  show wpAny _ _ (pure (s.heap.objs.size, [Value.ref l])) _ _ _
  refine wpAny_pure ?_
  show wpAny _ _ (Builtin.Dict.updateFrom "dict.__init__" s.heap.objs.size (.ref l) [] .none) _ _ _
  unfold Builtin.Dict.updateFrom
  refine wpAny_bind (wpAny_typeOf (T := "list") ⟨ol, k0 _ _ hl, hc⟩ ?_)
  rw [if_pos (by first | decide | rfl | simp)]
  refine wpAny_bind (miss_list (k0 _ _ hl) hc hdat hd quiet fun h1 tk1 hk1 => ?_)
  rw [if_pos (show (none : Option Value).isNone = true from rfl)]
  refine wpAny_bind (wpAny_rule ?_)
  have isl1 : h1.IsList l items := ⟨ol, hk1 _ _ (k0 _ _ hl), hc, n, hdat⟩
  have below : s.heap.objs.size < h1.objs.size := Heap.lt_size (hk1 _ _ (Heap.get?_push_size (o := { cls := .type "dict", data := .dict #[] }) s.heap rfl))
  refine wpAny_bind (wpAny_pyIter_list isl1 ?_)
  have k2 : ∀ b o, h1.get? b = some o → (h1.push { cls := .type "list_iterator", data := .fields #[.ref l, .int 0 0] }).get? b = some o := fun b o e => Heap.get?_push_of_some _ e
  have small : l < s.heap.objs.size := Heap.lt_size hl
  have key := pairs_loop (P := P) (w := w) (A := A.in1) (R := wants (fun r s2 => r = .none ∧ Q (.ref s.heap.objs.size) s2) E) (S := s.heap.objs.size) (I := h1.objs.size) (l := l) (items := items) (res := Value.none) (show A.units + 1 + 1 < cLine by omega) quiet
    (Nat.ne_of_lt (Nat.lt_trans small below)) (Nat.ne_of_lt below) (Nat.ne_of_gt small) prs 0 [] 0 0
    { s with heap := h1.push { cls := .type "list_iterator", data := .fields #[.ref l, .int 0 0] }, toks := tk1 } (by rw [size, Nat.zero_add]) (by rw [List.length_nil, Nat.zero_add]; exact room) (fun q hq => by cases hq)
    (fun j q e => by
      obtain ⟨b, e1, e2, e3⟩ := have_ j q e
      have lb : b < s.heap.objs.size := e2.lt
      have lk : q.2.1 < s.heap.objs.size := by
        obtain ⟨o, its, m, g, _⟩ := e3
        exact Heap.lt_size g
      exact ⟨b, by rw [Nat.zero_add]; exact e1, e2.keeps fun c o z => k2 _ _ (hk1 _ _ (k0 _ _ z)), keyAt_keeps e3 fun o z => k2 _ _ (hk1 _ _ (k0 _ _ z)), Nat.ne_of_lt lb, Nat.ne_of_lt (Nat.lt_trans lb below), Nat.ne_of_lt lk, Nat.ne_of_lt (Nat.lt_trans lk below)⟩)
    ⟨_, Heap.get?_push_size _ rfl, rfl, rfl⟩ (isl1.at fun o e => k2 _ _ e) (dictOfH_keeps new (fun o e => k2 _ _ (hk1 _ _ e)) fun q hq => by cases hq)
    (fun h' tk dd kk => ⟨rfl, fin h' tk dd fun b o e => kk b o (Nat.ne_of_lt (Heap.lt_size e)) (Nat.ne_of_lt (Nat.lt_trans (Heap.lt_size e) below)) (k2 _ _ (hk1 _ _ (k0 _ _ e)))⟩)
  first
    | exact wpAny_pure ⟨plainId_quiet ud_plain _, key⟩
    | exact wpAny_bind (wpAny_pure (wpAny_pure ⟨plainId_quiet ud_plain _, key⟩))
end
def mergeV {K V' : Type} [DecidableEq K] (f : List (K × V') → K → V' → List (K × V')) (l : List (K × V')) : List (K × V') := l.foldl (fun acc p => f acc p.1 p.2) []
theorem kt_merge {H : Hp} : ∀ {kvs : List (TKey × V)} {prs : List TP} {acc : List (TKey × V)} {ac : List TP}, KT H kvs prs → KT H acc ac → KT H (kvs.foldl (fun m p => putK m p.1 p.2) acc) (mergedT ac prs)
  | _, _, _, _, .nil, h => h
  | _, _, acc, ac, .cons (a := kv) (b := q) h t, r => by
    obtain ⟨h1, h2, h3⟩ := h
    have r2 := r.put kv.1 h2 h3
    rw [show storedH ac kv.1 q.2.1 q.2.2 = storedH ac q.1 q.2.1 q.2.2 by rw [h1]] at r2
    exact kt_merge (acc := putK acc kv.1 kv.2) (ac := storedH ac q.1 q.2.1 q.2.2) t r2
theorem len_merge : ∀ (kvs acc : List (TKey × V)), (kvs.foldl (fun m p => putK m p.1 p.2) acc).length ≤ acc.length + kvs.length
  | [], acc => by simp
  | p :: r, acc => by
    have h1 := len_merge r (putK acc p.1 p.2)
    have h2 := length_putK acc p.1 p.2
    rw [List.foldl_cons, List.length_cons]; omega
section
variable {X : Cx}
/-- a pair by a tuple -/
def PairT (K : PySem.W.Frag) (H : Hp) (p : Addr) (kv : TKey × Addr × V) : Prop := SqT K H p [.ref kv.2.1, kv.2.2] ∧ H kv.2.1 = some (.tup (kv.1.map kV))
theorem prs_of {pins : List (Addr × Obj)} {σ : L2.St} {H : Hp} {s : Shared} (I : Inv X pins σ H s) : ∀ {ps : List Addr} {kvs : List (TKey × Addr × V)}, Paired (PairT X.K H) ps kvs →
    ∃ prs : List TP, KT H (kvs.map fun q => (q.1, q.2.2)) prs ∧ prs.length = ps.length ∧ ∀ (j : Nat) (q : TP), prs[j]? = some q → ∃ b, ps[j]? = some b ∧ IsTup s.heap b #[.ref q.2.1, q.2.2] ∧ (tupleKind (mixKind X.prog X.w)).is s.heap q.1 q.2.1
  | _, _, .nil => ⟨[], .nil, rfl, fun j q e => by simp at e⟩
  | _, _, .cons (a := p) (b := kv) ⟨h1, h2⟩ t => by
    obtain ⟨prs, r, hl, hp⟩ := prs_of I t
    obtain ⟨its, rv, ht, _⟩ := I.tuple h1
    obtain ⟨u, y, rfl, ru, ry⟩ := vals2 rv
    obtain rfl : u = Value.ref kv.2.1 := ru
    refine ⟨(kv.1, kv.2.1, y) :: prs, .cons ⟨rfl, h2, ry⟩ r, by rw [List.length_cons, List.length_cons, hl], fun j q e => ?_⟩
    cases j with
    | zero =>
      cases Option.some.inj e
      exact ⟨p, rfl, ht, key_of I.hok h2⟩
    | succ j =>
      obtain ⟨b, e1, e2, e3⟩ := hp j q (by simpa using e)
      exact ⟨b, by simpa using e1, e2, e3⟩
theorem call_dictT (hc : X.calm = true) (hu : X.A.units + 64 < cLine) : CallR X (.type "dict") (fun xs H Q => ∃ (a : Addr) (ps : List Addr) (kvs : List (TKey × Addr × V)), xs = [.ref a] ∧ SqL X.K H a (ps.map V.ref) ∧ Paired (PairT X.K H) ps kvs ∧
    ∀ p, H p = none → Q (.ref p) (upd H p (.dT ((kvs.map fun q => (q.1, q.2.2)).foldl (fun m p => putK m p.1 p.2) [])))) := by
  intro pins s σ H xs us Q I r ⟨a, ps, kvs, ex, hq, hp, wish⟩
  subst ex
  obtain ⟨u, rfl, rx⟩ := vals1 r
  obtain rfl : u = Value.ref a := rx
  obtain ⟨its, rv, pl, few⟩ := I.list hq
  have ei := refs_at rv
  subst ei
  rw [List.length_map] at few
  obtain ⟨prs, rel, hl, hpr⟩ := prs_of I hp
  obtain ⟨o, n, ho, hcl, hd, hdat⟩ := pl
  refine call_pairsT (prs := prs) hu (I.ok.hd hc) ho hcl hd hdat (by simp [hl]) (by rw [hl]; exact few) (fun j q' e => ?_) fun h' tk ⟨q, es, ep, g1, g2, g3, g4, _, g5⟩ k => ?_
  · obtain ⟨b, e1, e2, e3⟩ := hpr j q' e
    exact ⟨b, by simp [e1], e2, e3⟩
  · have nD : H s.heap.objs.size = none := I.hok.fresh (Nat.le_refl _)
    have notSys : (s.heap.objs.size == sysModules) = false := beq_eq_false_iff_ne.mpr (Nat.ne_of_gt I.big)
    have fits : ((kvs.map fun q => (q.1, q.2.2)).foldl (fun m p => putK m p.1 p.2) []).length ≤ sizeLine := by
      refine Nat.le_trans (len_merge _ _) ?_
      rw [List.length_nil, Nat.zero_add, rel.length, hl]
      exact few
    refine ⟨.ref s.heap.objs.size, _, I.laid (t' := tk) (o := .dT _) k (Nat.le_refl _) ⟨fits, notSys, _, KT.keeps (kt_merge rel .nil) fun c ys ec => ?_, q, es, ep, g1, g2, g3, g4, g5⟩, rfl, wish _ nD⟩
    rw [upd_ne (ne_of_none ec nD)]
    exact ec
end
def mergeT (l : List (TKey × D)) : List (TKey × D) := l.foldl (fun acc p => putT acc p.1 p.2) []
theorem mergeT_nodup {l : List (TKey × D)} (h : (l.map (·.1)).Nodup) : mergeT l = l := by
  have gen : ∀ (m acc : List (TKey × D)), ((acc ++ m).map (·.1)).Nodup → m.foldl (fun acc p => putT acc p.1 p.2) acc = acc ++ m := by
    intro m
    induction m with
    | nil => intro acc _; simp
    | cons p m ih =>
      intro acc hn
      have hp : lookT acc p.1 = none := by
        rw [lookT_none]
        intro hm
        rw [List.map_append, List.map_cons] at hn
        exact (List.nodup_append.mp hn).2.2 _ hm _ (List.mem_cons_self ..) rfl
      rw [List.foldl_cons, putT_new hp, ih _ (by simpa using hn)]
      simp
  have := gen l [] (by simpa using h)
  simpa [mergeT] using this
theorem RpT.merge {n : Nm} {F : Hp} : ∀ {l : List (TKey × D)} {kvs : List (TKey × V)} {acc : List (TKey × D)} {ac : List (TKey × V)}, RpT n F l kvs → RpT n F acc ac → RpT n F (l.foldl (fun acc p => putT acc p.1 p.2) acc) (kvs.foldl (fun m p => putK m p.1 p.2) ac)
  | [], _, _, _, h, h' => by rw [show _ = [] from h]; exact h'
  | (k, d) :: l, _, _, _, ⟨v, r, e, h1, h2⟩, h' => by subst e; exact RpT.merge (l := l) (kvs := r) h2 (h'.put h1)
/-- a list of pairs by tuples -/
@[reducible] def onPairsT (k : List (TKey × D) → Prop) : List D → Prop
  | [] => k []
  | .tup [a, d] :: r => onTK (fun j => onPairsT (fun t => k ((j, d) :: t)) r) a
  | _ => False
theorem onPairsT.get {n : Nm} {K : PySem.W.Frag} {F H : Hp} (x : Ext n F H) : ∀ {l : List D} {k : List (TKey × D) → Prop} {xs : List V}, onPairsT k l → Rps n F l xs → ∃ (ps : List Addr) (kvs : List (TKey × Addr × V)) (L : List (TKey × D)), xs = ps.map V.ref ∧ Paired (PairT K H) ps kvs ∧ RpT n F L (kvs.map fun q => (q.1, q.2.2)) ∧ k L
  | [], k, xs, h, r => ⟨[], [], [], r, .nil, rfl, h⟩
  | .tup [a, d] :: l, k, xs, h, ⟨v, t, e, ⟨p, ys, ev, hp, rp⟩, r⟩ => by
    subst e; subst ev
    obtain ⟨va, ra, ey, h1, vd, rd, e2, h2, h3⟩ := rp
    subst ey; subst e2
    rw [show rd = [] from h3] at hp
    obtain ⟨j, b, rfl, hb, _, h4⟩ := onTK.get (d := a) (k := fun j => onPairsT (fun t => k ((j, d) :: t)) l) h h1
    obtain ⟨ps, kvs, L, e3, e4, e5, e6⟩ := onPairsT.get x h4 r
    subst e3
    exact ⟨p :: ps, (j, b, vd) :: kvs, (j, d) :: L, rfl, .cons ⟨SqT.of (x.at hp rfl), x.at hb rfl⟩ e4, ⟨vd, _, rfl, h2, e5⟩, e6⟩
  | .non :: _, _, _, h, _ => h.elim
  | .bl _ :: _, _, _, h, _ => h.elim
  | .int _ :: _, _, _, h, _ => h.elim
  | .str _ :: _, _, _, h, _ => h.elim
  | .lst _ :: _, _, _, h, _ => h.elim
  | .dK _ :: _, _, _, h, _ => h.elim
  | .dT _ :: _, _, _, h, _ => h.elim
  | .ins _ _ :: _, _, _, h, _ => h.elim
  | .scr _ :: _, _, _, h, _ => h.elim
  | .stt :: _, _, _, h, _ => h.elim
  | .tup [] :: _, _, _, h, _ => h.elim
  | .tup [_] :: _, _, _, h, _ => h.elim
  | .tup (_ :: _ :: _ :: _) :: _, _, _, h, _ => h.elim
def fDictT (fo : DO) : DF := fun S R => fo S fun o S1 => view S1 (onL fun l => onPairsT (fun L => R (.dT (mergeT L)) S1) l) o
theorem jf_dictT {X : Cx} {z : Z} {a : Expr} {p pos : Pos} {fo : DO} (hc : X.calm = true) (hu : X.A.units + 64 < cLine) (hg : Gl X "dict") (hm : X.mg "dict" = none) (ha : JO X z a fo) (hv : bootBuiltins "dict" = some (.type "dict") := by decide +kernel)
    (he : starEach [a] X.env = (false, eval a X.env) :: starEach [] X.env := by rfl) (hpl : (backTo pos (starEach [] X.env)).any (·.1) = false := by rfl) : JF X z (.Call (.Name "dict" p) [a] [] pos) (fDictT fo) :=
  JF.of (pe_callTy (call_dictT hc hu) hg hm hv (pa_cons ha pa_nil he) (he := he) (hpl := hpl)) fun F σ H S R r hf => tO.use r hf fun v H1 F1 S1 a1 x1 r1 h1 q1 => by
    obtain ⟨d, rv, q0⟩ := h1.view r1 q1
    obtain ⟨l, rfl, q2⟩ := onL.get q0
    obtain ⟨c, xs, rfl, h2, s1⟩ := rv
    obtain ⟨ps, kvs, L, rfl, e4, e5, e6⟩ := onPairsT.get r1.ext q2 s1
    refine ⟨c, ps, kvs, rfl, SqL.of h2, e4, fun t ht => ?_⟩
    obtain ⟨r4, fr⟩ := r1.fresh (c := .dT (mergeT L)) (o := .dT _) ht ⟨_, upd_same, RpT.merge e5 rfl⟩
    exact ⟨F1, S1, _, t, rfl, x1, r4, fr, e6⟩
end DL

namespace DL
open PySem L2 PySem.Spec PyProof.Rows PySem.SeqAt PySem.W
theorem lexL_lt : ∀ {l m : List Int}, lexL l m = decide (l < m)
  | [], [] => by simp [lexL]
  | [], _ :: _ => by simp [lexL]
  | _ :: _, [] => by simp [lexL]
  | x :: l, y :: m => by
    unfold lexL
    by_cases e : x = y
    · subst e
      rw [if_pos rfl, lexL_lt]
      simp [List.cons_lt_cons_iff]
    · rw [if_neg e]
      simp [List.cons_lt_cons_iff, e]
def tMinD (K : PySem.W.Frag) (t tk : TA) : TE := fun σ H Q => t σ H fun vs H1 => tk σ H1 fun zs H2 => ∃ (a : Addr) (xs : List V) (ds : List PyData) (d : V), vs = [V.ref a] ∧ zs = [d] ∧ SqL K H2 a xs ∧ DpAll K H2 xs ds ∧ AlikeAll ds ∧ PyData.depthAll ds ≤ 60 ∧
  (xs = [] → Q d H2) ∧ ∀ (y : PyData) (ys : List PyData) (i : Nat) (v : V), ds = y :: ys → xs[i]? = some v → ds[i]? = some (minD y ys) → Q v H2
theorem minD_in : ∀ {ys : List PyData} {y : PyData}, minD y ys ∈ y :: ys
  | [], y => List.mem_cons_self ..
  | x :: ys, y => by
    show minD (if dataLt x y then x else y) ys ∈ _
    split
    · exact List.mem_cons_of_mem _ minD_in
    · rcases List.mem_cons.mp (minD_in (ys := ys) (y := y)) with q | q
      · rw [q]; exact List.mem_cons_self ..
      · exact List.mem_cons_of_mem _ (List.mem_cons_of_mem _ q)
theorem vals_at {xs : List V} {us : List Value} (h : Vals xs us) : ∀ {i : Nat} {u : Value}, us[i]? = some u → ∃ x, xs[i]? = some x ∧ RelV x u := by
  induction h with
  | nil => intro i u h; simp at h
  | cons r _ ih =>
    intro i u h
    cases i with
    | zero =>
      have e := Option.some.inj h
      subst e
      exact ⟨_, rfl, r⟩
    | succ i => exact ih (by simpa using h)
section
variable {X : Cx} {x : Str} {p pos : Pos} {e : Expr} {es : List Expr} {kws : List Keyword} {t tk : TA}
theorem pe_minD (hc : X.calm = true) (hu : X.A.units + 64 < cLine) (hg : Gl X x) (hm : X.mg x = none) (hv : bootBuiltins x = some (.builtin "min")) (ha : PA X (e :: es) t) (hkw : PK X kws tk) (hks : (backToKw pos (keywordEach kws X.env)).filterMap (·.1) = [Str.ofString "default"] := by rfl)
    (hn : x ≠ "__name__" := by decide) (hdb : (x == ("__debug__" : Str)) = false := by decide)
    (he : backTo pos (starEach (e :: es) X.env) = (false, eval e X.env) :: backTo pos (starEach es X.env) := by rfl)
    (hpl : (backTo pos (starEach (e :: es) X.env)).any (·.1) = false := by rfl)
    (hall : (backToKw pos (keywordEach kws X.env)).all (·.1.isSome) = true := by rfl)
    (hk : (backToKw pos (keywordEach kws X.env)).any (·.1.isNone) = false := by rfl) : PE X (.Call (.Name x p) (e :: es) kws pos) (tMinD X.K t tk) := by
  refine ⟨fun pins s σ H Q I h => ?_⟩
  refine wpAny_Call_Name_kw (ld_blt I hg hm hv ?_ hn hdb)
  refine PyProof.Rows.callWith_kw (thn (ha.run pos pins s σ H _ I h) fun us s1 ⟨vs, H1, I1, r, q⟩ => ?_) he hpl hall hk
  refine thn (hkw.run pos pins s1 σ H1 _ I1 q) fun ws s2 ⟨zs, H2, I2, rz, q2⟩ => ?_
  obtain ⟨a, xs, ds, d, rfl, rfl, hs, hd, al, dp, q0, q1⟩ := q2
  rw [hks]
  obtain ⟨its, rv, hl, _⟩ := I2.list hs
  obtain ⟨as, hr⟩ := Dp.readsAll I2 ds xs its hd rv
  rw [Vals.ref1 r]
  cases rz with
  | cons rw_ rest =>
    cases rest
    refine min_list_default (I2.ok.hd hc) hl.isList hr al (by omega) (fun e0 h' tk hk => ⟨d, H2, I2.kept hk, rw_, q0 ?_⟩) fun y ys i v h' tk bs ey hv hb hk => ?_
    · subst e0
      cases hd
      rfl
    · obtain ⟨x, hx, rx⟩ := vals_at rv (show its[i]? = some v by simpa using hv)
      obtain ⟨cs, r3, hi, m3, _⟩ := readsAll_atA hr i v hv
      have e3 := alike_unique _ _ v _ _ (al.1 _ m3 _ (ey ▸ minD_in)) (reads_keeps hk r3) hb
      have e4 : ds[i]? = some (minD y ys) := by
        rw [← e3, List.getD_eq_getElem?_getD, List.getElem?_eq_getElem hi]; rfl
      exact ⟨x, H2, I2.kept hk, rx, q1 y ys i x ey hx e4⟩
end
/-- the least of whole numbers, or of tuples of them -/
def MinK (l : List D) (k : D → Prop) : Prop :=
  (∃ ns : List Int, l = ns.map D.int ∧ ∀ m, m ∈ ns → (∀ y, y ∈ ns → m ≤ y) → k (.int m)) ∨
  ∃ ts : List (List Int), l = ts.map (fun t => D.tup (t.map D.int)) ∧ ∀ t, t ∈ ts → (∀ u, u ∈ ts → lexL u t = false) → k (.tup (t.map D.int))
theorem toPs_ints (ns : List Int) : toPs (ns.map D.int) = ns.map PyData.int := by
  rw [toPs_map, List.map_map]; rfl
theorem toP_tup (t : List Int) : toP (D.tup (t.map D.int)) = .tuple (t.map PyData.int) := by
  show PyData.tuple (toPs _) = _
  rw [toPs_ints]
theorem fold_least {α : Type} {lt : α → α → Bool} (irr : ∀ a, lt a a = false) (asym : ∀ a b, lt a b = true → lt b a = false) (neg : ∀ a b c, lt b a = false → lt c b = false → lt c a = false) :
    ∀ (l : List α) (x : α), l.foldl (fun a y => if lt y a then y else a) x ∈ x :: l ∧ ∀ y ∈ x :: l, lt y (l.foldl (fun a y => if lt y a then y else a) x) = false
  | [], x => ⟨List.mem_cons_self .., fun y hy => by rw [List.mem_singleton.mp hy]; exact irr x⟩
  | z :: l, x => by
    rw [List.foldl_cons]
    obtain ⟨h1, h2⟩ := fold_least irr asym neg l (if lt z x then z else x)
    refine ⟨?_, fun y hy => ?_⟩
    · rcases List.mem_cons.mp h1 with q | q
      · rw [q]; split
        · exact List.mem_cons_of_mem _ (List.mem_cons_self ..)
        · exact List.mem_cons_self ..
      · exact List.mem_cons_of_mem _ (List.mem_cons_of_mem _ q)
    · have h3 := h2 _ (List.mem_cons_self ..)
      rcases List.mem_cons.mp hy with rfl | hy
      · by_cases q : lt z y = true
        · rw [if_pos q] at h3 ⊢
          exact neg _ _ _ h3 (asym _ _ q)
        · rw [if_neg q] at h3 ⊢; exact h3
      · rcases List.mem_cons.mp hy with rfl | hy
        · by_cases q : lt y x = true
          · rw [if_pos q] at h3 ⊢; exact h3
          · rw [if_neg q] at h3 ⊢
            exact neg _ _ _ h3 (Bool.not_eq_true _ ▸ q)
        · exact h2 y (List.mem_cons_of_mem _ hy)
theorem minD_map {α : Type} {f : α → PyData} {lt : α → α → Bool} (hf : ∀ a b, dataLt (f a) (f b) = lt a b) : ∀ (l : List α) (x : α), minD (f x) (l.map f) = f (l.foldl (fun a y => if lt y a then y else a) x)
  | [], x => rfl
  | z :: l, x => by
    rw [List.map_cons, List.foldl_cons, ← minD_map hf]
    show minD (if dataLt (f z) (f x) then f z else f x) (l.map f) = _
    rw [hf]
    congr 1
    split <;> rfl
theorem lexL_neg {a b c : List Int} (h : lexL b a = false) (k : lexL c b = false) : lexL c a = false := by
  cases q : lexL c a with
  | false => rfl
  | true =>
    exfalso
    by_cases e : lexL a b = true
    · rw [lexL_trans q e] at k; cases k
    · have e := lexL_tot h (Bool.not_eq_true _ ▸ e)
      subst e
      rw [q] at k; cases k
theorem dataLt_tups (xs ys : List Int) : dataLt (.tuple (xs.map .int)) (.tuple (ys.map .int)) = lexL xs ys := by
  rw [dataLt_tuple, lexL_lt]
  exact dataLt_ints xs ys
theorem alike_tups (ts : List (List Int)) : AlikeAll (ts.map fun t => PyData.tuple (t.map .int)) :=
  ⟨fun x hx y hy => by
    obtain ⟨a, _, rfl⟩ := List.mem_map.mp hx
    obtain ⟨b, _, rfl⟩ := List.mem_map.mp hy
    exact alike_ints a b, fun x hx => by
    obtain ⟨a, _, rfl⟩ := List.mem_map.mp hx
    intro w; cases w⟩
theorem alike_is (ns : List Int) : AlikeAll (ns.map PyData.int) :=
  ⟨fun x hx y hy => by
    obtain ⟨a, _, rfl⟩ := List.mem_map.mp hx
    obtain ⟨b, _, rfl⟩ := List.mem_map.mp hy
    rfl, fun x hx => by
    obtain ⟨a, _, rfl⟩ := List.mem_map.mp hx
    intro w; cases w⟩
theorem depth_tups : ∀ ts : List (List Int), PyData.depthAll (ts.map fun t => PyData.tuple (t.map .int)) ≤ 1
  | [] => by simp [PyData.depthAll]
  | t :: ts => by
    have := depth_tups ts
    rw [List.map_cons, PyData.depthAll, PyData.depth, depth_ints]
    omega
/-- what pe_minD asks, of a list as data -/
theorem minK_use {n : Nm} {F H : Hp} {l : List D} {xs : List V} {k : D → Prop} {Q : V → Prop} (x : Ext n F H) (s : Rps n F l xs) (h : MinK l k) (q : ∀ d v, k d → Rp n F d v → Q v) :
    ∃ ds : List PyData, DpAll n.K H xs ds ∧ AlikeAll ds ∧ PyData.depthAll ds ≤ 60 ∧ ∀ (y : PyData) (ys : List PyData) (i : Nat) (v : V), ds = y :: ys → xs[i]? = some v → ds[i]? = some (minD y ys) → Q v := by
  rcases h with ⟨ns, rfl, h⟩ | ⟨ts, rfl, h⟩
  · refine ⟨toPs (ns.map D.int), dps_of x _ 5 (fun d hd => ?_) s, ?_⟩
    · obtain ⟨i, _, rfl⟩ := List.mem_map.mp hd
      exact eqOk_int
    rw [toPs_ints]
    refine ⟨alike_is ns, by rw [depth_ints]; omega, fun y ys i v e hv hd => ?_⟩
    rcases ns with _ | ⟨m, ns⟩
    · cases e
    obtain ⟨rfl, rfl⟩ := List.cons.inj e
    rw [minD_map (f := PyData.int) (lt := fun a b => decide (a < b)) (fun a b => dataLt_int a b)] at hd
    obtain ⟨f1, f2⟩ := fold_least (lt := fun a b : Int => decide (a < b)) (fun a => decide_eq_false (by omega)) (fun a b h => by have := of_decide_eq_true h; exact decide_eq_false (by omega)) (fun a b c h k => by have := of_decide_eq_false h; have := of_decide_eq_false k; exact decide_eq_false (by omega)) ns m
    generalize ns.foldl (fun a y => if decide (y < a) then y else a) m = b at *
    rw [List.getElem?_map] at hd
    obtain ⟨b', hb', eb⟩ := Option.map_eq_some_iff.mp hd
    cases eb
    have hd' : ((m :: ns).map D.int)[i]? = some (.int b) := by rw [List.getElem?_map, hb']; rfl
    obtain ⟨w, q1, q2⟩ := s.get hd'
    rw [hv] at q1
    cases q1
    exact q _ _ (h b f1 fun y hy => by have := of_decide_eq_false (f2 y hy); omega) q2
  · refine ⟨toPs (ts.map fun t => D.tup (t.map D.int)), dps_of x _ 5 (fun d hd => ?_) s, ?_⟩
    · obtain ⟨t, _, rfl⟩ := List.mem_map.mp hd
      exact eqOk_tup fun d hd => by
        obtain ⟨i, _, rfl⟩ := List.mem_map.mp hd
        exact eqOk_int
    have e0 : toPs (ts.map fun t => D.tup (t.map D.int)) = ts.map fun t => PyData.tuple (t.map .int) := by
      rw [toPs_map, List.map_map]
      exact List.map_congr_left fun t _ => toP_tup t
    rw [e0]
    refine ⟨alike_tups ts, by have := depth_tups ts; omega, fun y ys i v e hv hd => ?_⟩
    rcases ts with _ | ⟨m, ts⟩
    · cases e
    obtain ⟨rfl, rfl⟩ := List.cons.inj e
    rw [minD_map (f := fun t : List Int => PyData.tuple (t.map .int)) (lt := lexL) (fun a b => dataLt_tups a b)] at hd
    obtain ⟨f1, f2⟩ := fold_least (lt := lexL) (fun a => lexL_irr) (fun a b h => lexL_asym h) (fun a b c h k => lexL_neg h k) ts m
    generalize ts.foldl (fun a y => if lexL y a then y else a) m = b at *
    rw [List.getElem?_map] at hd
    obtain ⟨b', hb', eb⟩ := Option.map_eq_some_iff.mp hd
    have eb : b' = b := by
      injection eb with eb
      exact List.map_inj_right (fun a b e => PyData.int.inj e) |>.mp eb
    subst eb
    have hd' : ((m :: ts).map fun t => D.tup (t.map D.int))[i]? = some (.tup (b'.map D.int)) := by rw [List.getElem?_map, hb']; rfl
    obtain ⟨w, q1, q2⟩ := s.get hd'
    rw [hv] at q1
    cases q1
    exact q _ _ (h b' f1 fun y hy => f2 y hy) q2
def dMinD (fa : DA) (fk : DV) : DE := fun S R => fa S fun as S1 => fk S1 fun ks S2 => views S2 as fun ds => on1 (onLS fun l => on1 (fun d => (l = [] → R d S2) ∧ MinK l fun m => R m S2) ks) ds
section
variable {X : Cx} {z : Z} {x : Str} {p pos : Pos} {e : Expr} {es : List Expr} {kws : List Keyword} {fa : DA} {fk : DV}
theorem je_minD (hz : z.n.K = X.K) (hc : X.calm = true) (hu : X.A.units + 64 < cLine) (hg : Gl X x) (hm : X.mg x = none) (hv : bootBuiltins x = some (.builtin "min")) (ha : JA X z (e :: es) fa) (hkw : JK X z kws fk) (hks : (backToKw pos (keywordEach kws X.env)).filterMap (·.1) = [Str.ofString "default"] := by rfl)
    (hn : x ≠ "__name__" := by decide) (hdb : (x == ("__debug__" : Str)) = false := by decide)
    (he : backTo pos (starEach (e :: es) X.env) = (false, eval e X.env) :: backTo pos (starEach es X.env) := by rfl)
    (hpl : (backTo pos (starEach (e :: es) X.env)).any (·.1) = false := by rfl)
    (hall : (backToKw pos (keywordEach kws X.env)).all (·.1.isSome) = true := by rfl)
    (hk : (backToKw pos (keywordEach kws X.env)).any (·.1.isNone) = false := by rfl) : JE X z (.Call (.Name x p) (e :: es) kws pos) (dMinD fa fk) :=
  JE.of (pe_minD hc hu hg hm hv ha hkw hks hn hdb he hpl hall hk) fun F σ H S R r hf => tA.use r hf fun vs H1 F1 S1 as x1 r1 h1 q => tV.use r1 q fun zs H2 F2 S2 ds x2 r2 h2 q2 => by
    obtain ⟨dl, rv, q3⟩ := (AOks.mono x2 h1).views r2 q2
    obtain ⟨d0, rfl, q4⟩ := on1.get q3
    obtain ⟨v, rfl, w1⟩ := rv.one
    obtain ⟨l, hd, q5⟩ := onLS.get q4
    obtain ⟨dd, rfl, q6, q7⟩ := on1.get q5
    obtain ⟨a, xs, rfl, g1, s1⟩ := w1.list r2.ext hd
    obtain ⟨u, ur, rfl, u1, u2⟩ := h2
    rw [show ur = [] from u2]
    obtain ⟨dts, k1, k2, k3, k4⟩ := minK_use (Q := fun v => PostE z F σ R v H2) r2.ext s1 q7 fun d v hk hr => ⟨F2, S2, d, x1.trans x2, r2, hr, hk⟩
    refine ⟨a, xs, dts, u, rfl, rfl, hz ▸ g1, hz ▸ k1, k2, k3, fun e0 => ⟨F2, S2, dd, x1.trans x2, r2, u1, q6 ?_⟩, k4⟩
    subst e0
    cases l with
    | nil => rfl
    | cons _ _ => obtain ⟨_, _, e, _⟩ := s1; cases e
end
end DL

namespace DL
open PySem L2 PySem.Spec PyProof.Rows PySem.SeqAt PySem.W
def rMaxT (K : PySem.W.Frag) : List V → Hp → VK → Prop := fun vs H Q => ∃ (a : Addr) (ns : List Int), vs = [V.ref a] ∧ SqT K H a (ns.map V.int) ∧ 0 < ns.length ∧ ∀ m, m ∈ ns → (∀ y, y ∈ ns → y ≤ m) → Q (.int m) H
theorem dpAll_ints {K : PySem.W.Frag} {H : Hp} : ∀ ns : List Int, DpAll K H (ns.map V.int) (ns.map PyData.int)
  | [] => .nil
  | n :: ns => .cons (.int n) (dpAll_ints ns)
theorem foldl_max : ∀ (ns : List Int) (n : Int), ns.foldl max n ∈ n :: ns ∧ ∀ y ∈ n :: ns, y ≤ ns.foldl max n
  | [], n => ⟨List.mem_cons_self .., fun y hy => by rw [List.mem_singleton.mp hy]; exact Int.le_refl _⟩
  | m :: ns, n => by
    rw [List.foldl_cons]
    obtain ⟨h1, h2⟩ := foldl_max ns (max n m)
    have h3 := h2 _ (List.mem_cons_self ..)
    refine ⟨?_, fun y hy => ?_⟩
    · rcases List.mem_cons.mp h1 with q | q
      · rw [q]
        by_cases w : n ≤ m
        · rw [Int.max_eq_right w]; exact List.mem_cons_of_mem _ (List.mem_cons_self ..)
        · rw [Int.max_eq_left (by omega)]; exact List.mem_cons_self ..
      · exact List.mem_cons_of_mem _ (List.mem_cons_of_mem _ q)
    · rcases List.mem_cons.mp hy with rfl | hy
      · omega
      · rcases List.mem_cons.mp hy with rfl | hy
        · omega
        · exact h2 y (List.mem_cons_of_mem _ hy)
theorem cr_maxT {X : Cx} (hc : X.calm = true) (hu : X.A.units + 64 < cLine) : CallR X (.builtin "max") (rMaxT X.K) := by
  intro pins s σ H vs us Q I r h
  obtain ⟨a, ns, rfl, hs, hne, q⟩ := h
  obtain ⟨its, rv, hl, _⟩ := I.tuple hs
  rw [Vals.ref1 r]
  obtain ⟨as, hr⟩ := Dp.readsAll I (ns.map PyData.int) _ its (dpAll_ints ns) rv
  obtain ⟨n, ns, rfl⟩ := List.exists_cons_of_length_pos hne
  refine max_tuple_data (I.ok.hd hc) hl hr (alike_is (n :: ns)) (by rw [show PyData.int n :: List.map PyData.int ns = (n :: ns).map PyData.int from rfl, depth_ints]; omega) fun i v h' tk bs hv hb hk => ?_
  rw [maxD_ints] at hb
  cases hb
  obtain ⟨f1, f2⟩ := foldl_max ns n
  exact ⟨.int _, H, I.kept hk, ⟨_, rfl⟩, q _ f1 f2⟩
def gMaxT : GN := fun ds k => on1 (onT fun l => onInts (fun ns => 0 < ns.length ∧ ∀ m, m ∈ ns → (∀ y, y ∈ ns → y ≤ m) → k (.int m)) l) ds
theorem cd_maxT {X : Cx} {z : Z} (hz : z.n.K = X.K) (hc : X.calm = true) (hu : X.A.units + 64 < cLine) : CallD X z (.builtin "max") gMaxT := ⟨⟨_, cr_maxT hc hu, fun {F σ H S vs ds R} r rv q => by
  obtain ⟨d, rfl, q0⟩ := on1.get q
  obtain ⟨v, rfl, w1⟩ := rv.one
  obtain ⟨l, rfl, q1⟩ := onT.get q0
  obtain ⟨ns, rfl, hp, q2⟩ := onInts.get q1
  obtain ⟨a, xs, rfl, h1, s1⟩ := w1
  rw [s1.ints] at h1
  exact ⟨a, ns, rfl, SqT.of (r.ext.at h1 rfl), hp, fun m m1 m2 => ⟨F, S, _, Ext.refl, r, rfl, q2 m m1 m2⟩⟩⟩⟩
end DL

namespace DL
open PySem L2 PySem.Spec PyProof.Rows PySem.SeqAt PySem.W
/-- what lies at an address, as whole numbers -/
def rSortDT : List V → Hp → VK → Prop := fun vs H Q => ∃ (d : Addr) (kvs : List (List Key × V)), vs = [V.ref d] ∧ Rd H d (.dT kvs) ∧ (∀ p ∈ kvs, ∃ n ns, p.1 = ((n :: ns : List Int)).map Sum.inl) ∧
  ∀ (bs : List Addr) (ys : List V) (p : Addr), IsKeys H kvs bs → ys.Perm (bs.map V.ref) → ys.Pairwise (fun x y => lexL (tupOf H y) (tupOf H x) = false) → H p = none → Q (.ref p) (upd H p (.lst ys))
theorem isKeys_at {H : Hp} {kvs : List (List Key × V)} {bs : List Addr} (h : IsKeys H kvs bs) : ∀ b ∈ bs, ∃ p ∈ kvs, H b = some (.tup (p.1.map kV)) := by
  unfold IsKeys at h
  induction h with
  | nil => intro b hb; cases hb
  | cons e _ ih =>
    intro b hb
    rcases List.mem_cons.mp hb with rfl | hb
    · exact ⟨_, List.mem_cons_self .., e⟩
    · obtain ⟨p, hp, q⟩ := ih b hb
      exact ⟨p, List.mem_cons_of_mem _ hp, q⟩
theorem tupOf_ints {H : Hp} {b : Addr} {ns : List Int} (h : H b = some (.tup (ns.map V.int))) : tupOf H (.ref b) = ns := by
  simp only [tupOf, h, List.map_map]
  exact List.map_id'' (fun _ => rfl) _
theorem cr_sortDT {X : Cx} (hc : X.calm = true) : CallR X (.builtin "sorted") rSortDT := by
  intro pins s σ H vs us Q I r ⟨d, kvs, ev, hd, hk, q⟩
  subst ev
  obtain ⟨u, rfl, ru⟩ := vals1 r
  cases ru
  obtain ⟨sz, hs, ks, pr, o, es, ep, ho, hx, hdt, he, hn⟩ := (show ObjOk X.prog X.w H s.heap d (.dT kvs) from hd.ok I.hok)
  have n1 : es.size = ks.length := size_of_entries he
  have n2 : kvs.length = ks.length := Paired.length pr
  have ik := isKeys_of pr
  have small : es.size ≤ sizeLine := by omega
  refine Calls.call_function_entry kind_sorted plain_sorted entry_sorted (args_sorted1 _) ?_
  unfold Builtin.«sorted»
  refine wpAny_bind (m := checkCount "sorted" 1 1 _) (wpAny_pure ?_)
  refine wpAny_bind (kdu_collect (A := X.A.in1) (kdl_raw hs hx hdt) (I.ok.hd hc) ho small fun h1 tk got keep items => ?_)
  have eq : got.toList = (ks.map fun x => x.2.1).map Value.ref := by
    refine List.ext_getElem? fun j => ?_
    rw [List.getElem?_map, List.getElem?_map]
    cases hj : got.toList[j]? with
    | none =>
      have := List.getElem?_eq_none_iff.mp hj
      rw [Array.length_toList, items.1] at this
      rw [List.getElem?_eq_none (show ks.length ≤ j by omega)]; rfl
    | some v =>
      obtain ⟨en, g1, g2⟩ := items.2 j v (by rw [← Array.getElem?_toList]; exact hj)
      have g3 := entry_at he j
      rw [g1] at g3
      cases hb : ks[j]? with
      | none => rw [hb] at g3; cases g3
      | some x =>
        rw [hb] at g3
        have g4 := Option.some.inj g3
        rw [g2, g4]; rfl
  have I1 : Inv X pins σ H { s with heap := h1, toks := tk } := I.kept keep
  generalize hbs : ks.map (fun x => x.2.1) = bs at *
  have lbs : bs.length = ks.length := by rw [← hbs, List.length_map]
  have few : got.toList.length ≤ sizeLine := by rw [eq, List.length_map]; omega
  have key : ∀ b ∈ bs, ∃ n ns, H b = some (.tup (((n :: ns : List Int)).map V.int)) := fun b hb => by
    obtain ⟨p, hp, e⟩ := isKeys_at ik b hb
    obtain ⟨n, ns, ep⟩ := hk p hp
    rw [ep, List.map_map] at e
    exact ⟨n, ns, e⟩
  have tups : ∀ v ∈ got.toList, IsTupI h1 v (tupOf H (backV v)) ∧ tupOf H (backV v) ≠ [] := fun v hv => by
    rw [eq] at hv
    obtain ⟨b, hb, rfl⟩ := List.mem_map.mp hv
    obtain ⟨n, ns, e⟩ := key b hb
    have et : tupOf H (backV (Value.ref b)) = n :: ns := tupOf_ints e
    rw [et]
    have ⟨_, its2, r2, o2, ho2, hc2, n2, hd2⟩ := I1.hok _ _ e
    exact ⟨⟨b, o2, its2.toArray, n2, rfl, ho2, hc2, hd2, intAll_vals r2⟩, by simp⟩
  refine wpAny_bind (wpAny_newList ?_ few)
  have hoL : (h1.push (seqObj "list" got.toList.toArray 0)).get? h1.objs.size = some (seqObj "list" got.toList.toArray 0) := Heap.get?_push_size _ rfl
  refine wpAny_bind (wpAny_holding (wpAny_call_entry slot_list_sort ⟨_, hoL, rfl⟩ entry_list_sort (SrtO.list_sort_ord (lexL_swo fun u => tupOf H (backV u)) hoL few (fun h2 => tups_sortable (by omega) (fun v hv => ⟨(tups v hv).1.keeps fun c o e _ => Heap.get?_push_of_some _ e, (tups v hv).2⟩) fun o e c => ?_) fun out srt stb => ⟨_, rfl, ?_⟩) (args_list_sort _)))
  · cases Option.some.inj (e.symm.trans hoL)
    exact absurd (Value.type.inj c) (by decide)
  · obtain ⟨c', hc'⟩ := sortedHeap_at (vs := got.toList) (out := out.toArray) hoL
    have outs : ∀ u ∈ out, ∃ b, u = Value.ref b := fun u hu => by
      have := stb.perm.mem_iff.mp hu
      rw [eq] at this
      obtain ⟨b, _, e⟩ := List.mem_map.mp this
      exact ⟨b, e.symm⟩
    have pm : (out.map backV).Perm (bs.map V.ref) := by
      have w := stb.perm.map backV
      rw [eq, List.map_map] at w
      exact w
    refine wpAny_pure ⟨_, rfl, .ref h1.objs.size, upd H h1.objs.size (.lst (out.map backV)), I1.laid (t' := tk) (fun b u e => ?_) (Nat.le_refl _) ⟨by rw [pm.length_eq, List.length_map]; omega, out, c', vals_back outs, hc'⟩, rfl, q bs _ _ ik pm (List.pairwise_map.mpr srt) (I1.hok.fresh (Nat.le_refl _))⟩
    have lt : b < h1.objs.size := Heap.lt_size e
    rw [sortedHeap_old (Nat.ne_of_lt lt) (by rw [size_push']; exact Nat.lt_succ_of_lt lt)]
    exact Heap.get?_push_of_some _ e
/-- sorted(d), by tuples -/
def gSortDT : GN := fun ds k => on1 (fun d => match d with
  | .dT l => (∀ p ∈ l, ∃ n ns, p.1 = ((n :: ns : List Int)).map Sum.inl) ∧ ∀ l' : List D, l'.Perm (l.map fun p => keyT p.1) → l'.Pairwise leT → k (.lst l')
  | _ => False) ds
theorem cd_sortDT {X : Cx} {z : Z} (hc : X.calm = true) : CallD X z (.builtin "sorted") gSortDT := ⟨⟨_, cr_sortDT hc, fun {F σ H S vs ds R} r rv q => by
  obtain ⟨d, rfl, q0⟩ := on1.get q
  obtain ⟨v, rfl, w1⟩ := rv.one
  cases d with
  | dT l =>
    obtain ⟨hk, q1⟩ := q0
    obtain ⟨c, kvs, rfl, h2, s1⟩ := w1
    have ek : kvs.map (·.1) = l.map (·.1) := s1.keys
    refine ⟨c, kvs, rfl, h2, fun p hp => ?_, fun bs ys p ik pm srt hp => ?_⟩
    · have : p.1 ∈ l.map (·.1) := ek ▸ List.mem_map.mpr ⟨p, hp, rfl⟩
      obtain ⟨p', hp', e⟩ := List.mem_map.mp this
      rw [← e]; exact hk p' hp'
    · have hk2 : Paired (fun (k : TKey) (b : Addr) => H b = some (.tup (k.map kV))) (l.map (·.1)) bs := by
        rw [← ek]
        unfold IsKeys at ik
        clear pm ek s1 h2 rv
        induction ik with
        | nil => exact .nil
        | cons h _ ih => exact .cons h ih
      obtain ⟨F', y1, y2, y3, y4⟩ := tups_join hk2 r.ext
      have r2 := r.grow y1 y3 (fun _ _ h => h) y2
      obtain ⟨l', pm', s2⟩ := Rps.perm pm y4
      have em : (l.map (·.1)).map keyT = l.map fun p => keyT p.1 := by rw [List.map_map]; rfl
      refine ⟨_, S, .lst l', y1.trans (Ext.new (r2.ext.free hp)), r2.lay _ hp, ⟨p, _, rfl, upd_same, s2.mono (Ext.new (r2.ext.free hp))⟩, q1 l' (em ▸ pm') ?_⟩
      refine Rps.pairs (P := fun x y => lexL (tupOf H y) (tupOf H x) = false) (fun d e x y g1 g2 hlt ns ms ed ee => ?_) s2 srt
      subst ed; subst ee
      obtain ⟨t1, e1, w1, _⟩ := tupOf_rp g1
      obtain ⟨t2, e2, w2, _⟩ := tupOf_rp g2
      subst e1; subst e2
      rw [tupOf_ints (r2.ext.at w1 rfl), tupOf_ints (r2.ext.at w2 rfl)] at hlt
      exact hlt
  | _ => exact q0.elim⟩⟩
end DL

namespace DL
open PySem L2 PySem.Spec PyProof.Rows
/-- a dict by tuples that is locked, with its entries -/
theorem frzV {X : Cx} {pn : List (Addr × Obj)} {τ : L2.St} {G : Hp} {s : Shared} {d : Addr} {od : Obj} {ws : List (List Key × V)} (J : Inv X pn τ G s) (g : G d = some (.frz od (.dT ws))) :
    (d == sysModules) = false ∧ ∃ (es : Array DictEntry) (ep : Nat), s.heap.get? d = some od ∧ od.ExactDict ∧ od.data = .dict es ep ∧ es.size = ws.length ∧
      ∀ (j : Nat) (a : List Key) (y : V), ws[j]? = some (a, y) → ∃ (en : DictEntry) (q : Addr), es[j]? = some en ∧ en.key = .ref q ∧ G q = some (.tup (a.map kV)) ∧ RelV y en.val := by
  obtain ⟨there, _, low, xs, pr, ob, es, ep, e0, ex, ed, ee, _⟩ := J.hok d _ g
  rw [there] at e0
  cases e0
  refine ⟨low, es, ep, there, ex, ed, ?_, fun j a y hy => ?_⟩
  · have m1 := size_of_entries ee
    have m2 : ws.length = xs.length := Paired.length pr
    omega
  · obtain ⟨b, hb, _, e2, e3⟩ := paired_get pr hy
    have h := entry_at ee j
    rw [hb] at h
    exact ⟨_, b.2.1, h, rfl, e2, e3⟩
/-- its pairs: each a new tuple of the key's own one and the value -/
def Itp (d : Addr) (od : Obj) (ws : List (List Key × V)) : It :=
  ⟨fun i G => i < ws.length ∧ G d = some (.frz od (.dT ws)), fun i G x G' => ∃ (t q : Addr) (a : List Key) (y : V), x = .ref t ∧ ws[i]? = some (a, y) ∧ G q = some (.tup (a.map kV)) ∧ G t = none ∧ G' = upd G t (.tup [.ref q, y]), fun i G => ws.length ≤ i ∧ G d = some (.frz od (.dT ws))⟩
theorem turn_itp {P : Program} {w : World} {K : PySem.W.Frag} {d : Addr} {od : Obj} {es : Array DictEntry} {ep : Nat} {ws : List (List Key × V)} {elts : List Expr} {kk : Nat} {tpos : Pos} (b : Addr) (ed : od.data = .dict es ep) (ez : es.size = ws.length) :
    Turn P w K (.Tuple elts kk tpos) (Itp d od ws) [b] b (fun i h => ∃ u v, IsItemIter h b d i es.size ep u v) where
  mem := by simp
  obj := fun i h ⟨u, v, e⟩ c hc => by
    cases (show c = b by simpa using hc)
    exact ⟨_, e, fun x z => nomatch z⟩
  keep := fun i h h' ⟨u, v, e⟩ k => ⟨u, v, k b (by simp) _ e⟩
  item := by
    rintro X rfl rfl rfl hc i pn s τ G E J hf ⟨u, v, it⟩ ⟨hi, g⟩
    obtain ⟨low, es', ep', there, ex, ed', _, ent⟩ := frzV J g
    obtain ⟨rfl, rfl⟩ := dict_ep ed ed'
    obtain ⟨⟨a, y⟩, hy⟩ : ∃ p, ws[i]? = some p := ⟨ws[i], List.getElem?_eq_getElem hi⟩
    obtain ⟨en, q, e1, e2, e3, e4⟩ := ent i a y hy
    have hi' : i < es'.size := by omega
    have een : es'[i] = en := by
      rw [Array.getElem?_eq_getElem hi'] at e1
      exact Option.some.inj e1
    have lb : b < s.heap.objs.size := Heap.lt_size it
    refine wpAny_pyNext_items_item_raw it ⟨od, there, ex, ed'⟩ hi' fun h1 o1 t1 _ k1 => ?_
    refine ⟨_, rfl, wpAny_letOwnedTupleGo_items (s := { s with heap := h1 }) o1 fun h2 o2 sb => ?_⟩
    have t2 : h2.get? s.heap.objs.size = some { cls := .type "tuple", data := .seq #[es'[i].key, es'[i].val] } := by
      rw [sb.2 _ (Nat.ne_of_gt lb)]; exact t1
    have new : ObjOk X.prog X.w (upd G s.heap.objs.size (.tup [.ref q, y])) h2 s.heap.objs.size (.tup [.ref q, y]) := by
      refine ⟨by show 2 ≤ sizeLine; decide, [es'[i].key, es'[i].val], .cons ?_ (.cons ?_ .nil), ⟨_, t2, rfl, _, rfl⟩⟩
      · rw [een]; exact e2
      · rw [een]; exact e4
    have J1 : Inv X pn τ (upd G s.heap.objs.size (.tup [.ref q, y])) { s with heap := h2 } := by
      refine J.turnedNew (t' := s.toks) (ch := [b]) (fun c ob hc e => ?_) hf (Nat.le_refl _) new
      rw [sb.2 c (by simpa using hc)]
      exact k1 c ob (by simpa using hc) e
    refine ⟨.ref s.heap.objs.size, _, J1, rfl, ⟨_, q, a, y, rfl, hy, e3, J.hok.fresh (Nat.le_refl _), rfl⟩, ⟨_, _, o2⟩, fun c hc => ?_⟩
    cases (show c = b by simpa using hc)
    rw [upd_ne (Nat.ne_of_lt lb)]
    exact (hf b (by simp)).1
  done := by
    rintro X rfl rfl rfl hc i pn s τ G E J hf ⟨u, v, it⟩ ⟨hi, g⟩
    obtain ⟨f0, f1, f2, f3, f4, f5⟩ := hf b (by simp)
    obtain ⟨low, es', ep', there, ex, ed', _, ent⟩ := frzV J g
    obtain ⟨rfl, rfl⟩ := dict_ep ed ed'
    exact wpAny_pyNext_items_end_raw (J.ok.hd hc) it ⟨od, there, ex, ed'⟩ (by omega) fun h1 eb => ⟨rfl, J.turned (t' := s.toks) (fun c ob hc e => eb c ob hc e) f0 f1 f3 f4 f5⟩
  self := fun A i s Q E ⟨_, _, e⟩ h => wpAny_pyIter_itemiter e h
def iItp (td : TE) : TI := fun σ H R => td σ H fun x H1 => ∃ d od ws, x = .ref d ∧ H1 d = some (.frz od (.dT ws)) ∧ R (Itp d od ws) H1
theorem pi_itp {X : Cx} {e : Expr} {td : TE} {apos cpos tpos : Pos} {elts : List Expr} {kk : Nat} (he : PE X e td) (hbase : attributeBase e "items" X.env (eval e X.env) = eval e X.env := by rfl) (hline : (apos.endLine == cpos.line) = true := by rfl) :
    PI X (.Tuple elts kk tpos) (.Call (.Attribute e "items" apos) [] [] cpos) (iItp td) := by
  refine ⟨fun pn s τ G R J h => wpAny_Call_method (T := "dict") (id := "dict.items") hbase rfl hline F.plainAttrs_dict F.slot_dict_items F.type_dict_items (thn (he.run pn s τ G _ J h) ?_)⟩
  rintro _ s1 ⟨_, G1, J1, rx, d, od, ws, rfl, g, q⟩
  cases rx
  obtain ⟨low, es, ep, there, ex, ed, ez, _⟩ := frzV J1 g
  have raw : s1.heap.DictRaw d es ep := ⟨od, there, ex, ed⟩
  refine ⟨raw.typeIs, fun c hc => ?_, ?_⟩
  · cases hc
    exact ⟨od, there, ex.2.1⟩
  have J2 : Inv X pn τ G1 { s1 with heap := s1.heap.push { cls := .type "dict_items", data := .fields #[.ref d] } } := J1.kept (t' := s1.toks) fun c ob q => Heap.get?_push_of_some _ q
  refine method_meetsIn F.slot_dict_items F.entry_dict_items rfl (PySem.evalArgs_none ⟨rfl, raw.typeIs, F.args_dict_items_1 _, _, meets_dict_items_raw d low, ⟨⟨es, ep, raw⟩, ?_⟩⟩)
  refine wpAny_pyIter_items_raw (d := d) ⟨_, Heap.get?_push_size _ rfl, rfl, rfl⟩ (raw.push _) (pi_one (tk := s1.toks) J2 _ (turn_itp _ ed ez) ⟨.none, .none, ?_⟩ q)
  exact Heap.get?_push_size _ rfl
def itemsT (l : List (TKey × D)) : List D := l.map fun p => .tup [keyT p.1, p.2]
section
variable {n : Nm} {F : Hp}
theorem RpT.at : ∀ {l : List (TKey × D)} {ws : List (List Key × V)} {i : Nat} {a : List Key} {y : V}, RpT n F l ws → ws[i]? = some (a, y) → ∃ d, l[i]? = some (a, d) ∧ Rp n F d y
  | [], _, i, a, y, h, e => by rw [show _ = [] from h] at e; simp at e
  | (j, d) :: l, _, 0, a, y, ⟨w, r, e0, h1, h2⟩, e => by subst e0; cases e; exact ⟨d, rfl, h1⟩
  | (j, d) :: l, _, i + 1, a, y, ⟨w, r, e0, h1, h2⟩, e => by subst e0; exact RpT.at (i := i) h2 e
theorem RpT.size {l : List (TKey × D)} {ws : List (List Key × V)} (h : RpT n F l ws) : ws.length = l.length := by
  have := congrArg List.length h.keys
  rwa [List.length_map, List.length_map] at this
theorem RpT.vals : ∀ {l : List (TKey × D)} {ws : List (List Key × V)}, RpT n F l ws → Rps n F (l.map (·.2)) (ws.map (·.2))
  | [], _, h => by rw [show _ = [] from h]; rfl
  | (j, d) :: l, _, ⟨w, r, e0, h1, h2⟩ => by subst e0; exact ⟨w, _, rfl, h1, RpT.vals h2⟩
theorem itp_ok {d : Addr} {od : Obj} {ws : List (List Key × V)} {l : List (TKey × D)} (g : F d = some (.frz od (.dT ws))) (s : RpT n F l ws) : ItOk n (Itp d od ws) F (itemsT l) where
  go := fun F1 H1 i x1 x2 hi => ⟨by rw [itemsT, List.length_map] at hi; rw [s.size]; exact hi, x2.at (x1.at g rfl) rfl⟩
  yld := fun F1 H1 i x H2 x1 x2 hy hi => by
    obtain ⟨t, q, a, y, rfl, e, hq, ht, rfl⟩ := hy
    obtain ⟨d', e', r⟩ := s.at e
    obtain ⟨y1, y2, y3⟩ := tup_joins x2 hq
    have ft : upd F1 q (.tup (a.map kV)) t = none := y2.free ht
    have z1 := Ext.new (n := n) (o := .tup [.ref q, y]) ft
    have nq : q ≠ t := fun w => by subst w; rw [hq] at ht; cases ht
    have hQ : upd (upd F1 q (.tup (a.map kV))) t (.tup [.ref q, y]) q = some (.tup (a.map kV)) := by rw [upd_ne nq, upd_same]
    refine ⟨.tup [keyT a, d'], _, by rw [itemsT, List.getElem?_map, e']; rfl, y1.trans z1, fun c o hc => ?_, fun c o hc => ?_, fun c o hc => ?_, ⟨t, _, rfl, upd_same, _, _, rfl, ⟨q, _, rfl, hQ, keys_rps⟩, _, _, rfl, ((r.mono x1).mono y1).mono z1, rfl⟩⟩
    · by_cases w : c = t
      · subst w; rw [upd_same] at hc; cases hc; exact ⟨_, upd_same, .refl _⟩
      · rw [upd_ne w] at hc ⊢; exact y2 c o hc
    · by_cases w : c = t
      · subst w; exact .inr (.inl ht)
      · rw [upd_ne w] at hc; exact y3 c o hc
    · rw [upd_ne (ne_of_none hc ht)]; exact hc
  stop := fun F1 H1 i x1 x2 hi => ⟨by rw [itemsT, List.length_map] at hi; rw [s.size]; exact hi, x2.at (x1.at g rfl) rfl⟩
end
def onDT (k : List (TKey × D) → Prop) : D → Prop
  | .dT l => k l
  | _ => False
theorem onDT.get {k : List (TKey × D) → Prop} {d : D} (h : onDT k d) : ∃ l, d = .dT l ∧ k l := by
  cases d with
  | dT l => exact ⟨l, rfl, h⟩
  | _ => exact h.elim
def wItemsT (f : DE) : DI := fun S R => f S fun d S' => onDT (fun l => R (itemsT l) S') d
theorem ji_itemsT {X : Cx} {z : Z} {e : Expr} {f : DE} {apos cpos tpos : Pos} {elts : List Expr} {kk : Nat} (h : JE X z e f) (hbase : attributeBase e "items" X.env (eval e X.env) = eval e X.env := by rfl) (hline : (apos.endLine == cpos.line) = true := by rfl) :
    JI X z (.Tuple elts kk tpos) (.Call (.Attribute e "items" apos) [] [] cpos) (wItemsT f) :=
  JI.of (pi_itp h hbase hline) fun F σ H S Rw r hf => tE.use r hf fun v H1 F1 S1 d x1 r1 h1 q => by
    obtain ⟨l, rfl, q⟩ := onDT.get q
    obtain ⟨p, ob, ws, rfl, hp, s1⟩ := h1
    exact ⟨p, ob, ws, rfl, r1.ext.at hp rfl, F1, S1, _, x1, r1, itp_ok hp s1, q⟩
theorem vals_by : ∀ {xs : List V} {us : List Value}, xs.length = us.length → (∀ (j : Nat) (x : V) (u : Value), xs[j]? = some x → us[j]? = some u → RelV x u) → Vals xs us
  | [], [], _, _ => .nil
  | x :: xs, u :: us, e, h => .cons (h 0 x u rfl rfl) (vals_by (by simpa using e) fun j x u h1 h2 => h (j + 1) x u h1 h2)
  | [], _ :: _, e, _ => by simp at e
  | _ :: _, [], e, _ => by simp at e
def tLVals (te : TE) : TE := fun σ H Q => te σ H fun x H1 => ∃ (d : Addr) (ws : List (List Key × V)), x = .ref d ∧ Rd H1 d (.dT ws) ∧ ∀ p, H1 p = none → Q (.ref p) (upd H1 p (.lst (ws.map (·.2))))
theorem pe_lVals {X : Cx} {a : Expr} {p apos cpos pos : Pos} {te : TE} (hc : X.calm = true) (he : PE X a te) (hg : Gl X "list") (hm : X.mg "list" = none) (hv : bootBuiltins "list" = some (.type "list")) (hbase : attributeBase a "values" X.env (eval a X.env) = eval a X.env) (hline : (apos.endLine == cpos.line) = true)
    (hs : starEach [.Call (.Attribute a "values" apos) [] [] cpos] X.env = (false, eval (.Call (.Attribute a "values" apos) [] [] cpos) X.env) :: starEach [] X.env) :
    PE X (.Call (.Name "list" p) [.Call (.Attribute a "values" apos) [] [] cpos] [] pos) (tLVals te) := by
  refine ⟨fun pn s τ G Q J hq => wpAny_Call_Name_kw (ld_blt J hg hm hv (PyProof.Rows.callWith_type1 ?_ hs rfl))⟩
  rw [hs]
  refine Calls.spliced_cons (wpAny_Call_method (T := "dict") (id := "dict.values") hbase rfl hline F.plainAttrs_dict F.slot_dict_values F.type_dict_values (thn (he.run pn s τ G _ J hq) ?_))
  rintro u s1 ⟨x, G1, J1, rx, d, ws, rfl, hd, q⟩
  cases (show u = Value.ref d from rx)
  obtain ⟨z, low, ks, pr, od, es, ep, there, ex, ed, ee, _⟩ := (show ObjOk X.prog X.w G1 s1.heap d (.dT ws) from hd.ok J1.hok)
  have m1 := size_of_entries ee
  have m2 : ws.length = ks.length := Paired.length pr
  have raw : s1.heap.DictRaw d es ep := ⟨od, there, ex, ed⟩
  refine ⟨raw.typeIs, fun c hc => ?_, ?_⟩
  · cases hc
    exact ⟨od, there, ex.2.1⟩
  have J2 : Inv X pn τ G1 { s1 with heap := s1.heap.push { cls := .type "dict_values", data := .fields #[.ref d] } } := J1.kept (t' := s1.toks) fun c ob q => Heap.get?_push_of_some _ q
  refine method_meetsIn F.slot_dict_values F.entry_dict_values rfl (PySem.evalArgs_none ⟨rfl, raw.typeIs, F.args_dict_values_1 _, _, meets_dict_values_raw d low, ⟨⟨es, ep, raw⟩, Calls.spliced_nil ?_⟩⟩)
  refine PySem.W.kdl_call (KdlSrc.rawValues (d := d) (es := es) (ep := ep)) (J2.ok.hd hc) ⟨⟨_, Heap.get?_push_size _ rfl, rfl, rfl⟩, raw.push _⟩ (by omega) fun h' tk acc c kp e it => ?_
  have rv : Vals (ws.map (·.2)) acc.toList := by
    have l1 : acc.size = es.size := it.1
    have l2 : acc.toList.length = acc.size := Array.length_toList ..
    refine vals_by (by rw [List.length_map]; omega) fun j x u h1 h2 => ?_
    rw [List.getElem?_map] at h1
    cases hw : ws[j]? with
    | none => rw [hw] at h1; cases h1
    | some p =>
      rw [hw] at h1
      cases h1
      obtain ⟨hi, rfl⟩ := it.2 j u (by rw [← Array.getElem?_toList]; exact h2)
      obtain ⟨b, hb, _, _, e3⟩ := paired_get pr hw
      have hE := entry_at ee j
      rw [hb, Array.getElem?_eq_getElem hi] at hE
      rw [Option.some.inj hE]
      exact e3
  refine ⟨.ref _, _, J2.laid (t' := tk) (o := .lst (ws.map (·.2))) kp (Nat.le_refl _) ⟨by rw [List.length_map]; omega, acc.toList, c, rv, by rw [Array.toArray_toList]; exact e⟩, rfl, q _ (J2.hok.fresh (Nat.le_refl _))⟩
def fVals (fo : DO) : DF := fun S R => fo S fun o S1 => view S1 (onDT fun l => R (.lst (l.map (·.2))) S1) o
theorem jf_vals {X : Cx} {z : Z} {a : Expr} {p apos cpos pos : Pos} {fo : DO} (hc : X.calm = true) (hg : Gl X "list") (hm : X.mg "list" = none) (ha : JO X z a fo) (hv : bootBuiltins "list" = some (.type "list") := by decide +kernel)
    (hbase : attributeBase a "values" X.env (eval a X.env) = eval a X.env := by rfl) (hline : (apos.endLine == cpos.line) = true := by rfl)
    (hs : starEach [.Call (.Attribute a "values" apos) [] [] cpos] X.env = (false, eval (.Call (.Attribute a "values" apos) [] [] cpos) X.env) :: starEach [] X.env := by rfl) :
    JF X z (.Call (.Name "list" p) [.Call (.Attribute a "values" apos) [] [] cpos] [] pos) (fVals fo) :=
  JF.of (pe_lVals hc ha hg hm hv hbase hline hs) fun F σ H S R r hf => tO.use r hf fun v H1 F1 S1 a1 x1 r1 h1 q1 => by
    obtain ⟨d, rv, q0⟩ := h1.view r1 q1
    obtain ⟨l, rfl, q2⟩ := onDT.get q0
    obtain ⟨c, ws, rfl, h2, s1⟩ := rv
    refine ⟨c, ws, rfl, h2, fun q hq => ?_⟩
    obtain ⟨r3, fr⟩ := r1.fresh (c := .lst (l.map (·.2))) (o := .lst (ws.map (·.2))) hq ⟨_, upd_same, s1.vals⟩
    exact ⟨F1, S1, _, q, rfl, x1, r3, fr, q2⟩
end DL

namespace DL
open PySem L2 PySem.Spec PyProof.Rows
section
variable {X : Cx}
def rSetTu (w : World) (K : PySem.W.Frag) : List V → Hp → VK → Prop := fun xs G Q => ∃ (b : Addr) (is : List Int), xs = [.ref b] ∧ SqT K G b (is.map V.int) ∧ is.length + 1 < scanBound ∧ ∀ p c, G p = none → Q (.ref p) (upd G p (SetO w p (fun j => decide (j ∈ is)) c))
theorem cr_setTu (hc : X.calm = true) : CallR X (.type "set") (rSetTu X.w X.K) := by
  intro pn s τ G xs us Q J r h
  obtain ⟨b, is, rfl, hs, hb, q⟩ := h
  obtain ⟨its, rv, pt, _⟩ := J.tuple hs
  rw [Vals.ref1 r]
  exact call_set_tupI is (J.ok.hd hc) (show s.heap.IsTuple b its.toArray from pt) rv.ints hb fun h' tk c hR _ k => ⟨.ref _, _, J.laid (t' := tk) k (Nat.le_refl _) (setO_new hR), rfl, q _ c (J.hok.fresh (Nat.le_refl _))⟩
def rLenSet (w : World) : List V → Hp → VK → Prop := fun vs G Q => ∃ (a : Addr) (S : Int → Bool) (n : Nat), vs = [V.ref a] ∧ G a = some (SetO w a S n) ∧ ∀ m : List Int, m.Nodup → (∀ k : Int, k ∈ m ↔ S k = true) → Q (.int (m.length : Nat)) G
theorem cr_lenSet : CallR X (.builtin "len") (rLenSet X.w) := by
  intro pn s τ G vs us Q J r h
  obtain ⟨a, S, n, rfl, ha, q⟩ := h
  rw [Vals.ref1 r]
  obtain ⟨o, es, ep, t, ho, hex, hd, g, nd, hm, hb, hf, hn, _⟩ := setO_get J ha
  have small : (es.size : Int) < 2 ^ 63 := by unfold scanBound at hb; omega
  have e : (es.toList.map keyOf).length = es.size := by rw [List.length_map, Array.length_toList]
  exact call_len_set ho hex hd hf small ⟨.int es.size, G, J.tok _, ⟨_, rfl⟩, by rw [← e]; exact q _ nd fun k => (hm k).symm⟩
end
/-- len(set(x)), x a tuple -/
def dLenSet (fo : DO) : DE := fun S R => fo S fun o S1 => view S1 (fun d => match d with
  | .tup l => onInts (fun is => is.length + 1 < scanBound ∧ ∀ m : List Int, m.Nodup → (∀ k, k ∈ m ↔ k ∈ is) → R (.int (m.length : Nat)) S1) l
  | _ => False) o
section
variable {X : Cx} {z : Z} {a : Expr} {p p2 pos pos2 : Pos} {fo : DO}
theorem je_lenSet (hz : z.n.K = X.K) (hc : X.calm = true) (hg : Gl X "len") (hm : X.mg "len" = none) (hg2 : Gl X "set") (hm2 : X.mg "set" = none) (ha : JO X z a fo) (hv : bootBuiltins "len" = some (.builtin "len") := by decide +kernel) (hv2 : bootBuiltins "set" = some (.type "set") := by decide +kernel)
    (he2 : starEach [a] X.env = (false, eval a X.env) :: starEach [] X.env := by rfl) (hpl2 : (backTo pos2 (starEach [] X.env)).any (·.1) = false := by rfl)
    (he : starEach [.Call (.Name "set" p2) [a] [] pos2] X.env = (false, eval (.Call (.Name "set" p2) [a] [] pos2) X.env) :: starEach [] X.env := by rfl) (hpl : (backTo pos (starEach [] X.env)).any (·.1) = false := by rfl) :
    JE X z (.Call (.Name "len" p) [.Call (.Name "set" p2) [a] [] pos2] [] pos) (dLenSet fo) :=
  JE.of (pe_callB cr_lenSet hg hm hv (pa_cons (pe_callTy (cr_setTu hc) hg2 hm2 hv2 (pa_cons ha pa_nil he2) (he := he2) (hpl := hpl2)) pa_nil he) (he := he) (hpl := hpl)) fun F σ H S R r hf => tO.use r hf fun v H1 F1 S1 a1 x1 r1 h1 q1 => by
    obtain ⟨d, rv, q0⟩ := h1.view r1 q1
    cases d with
    | tup l =>
      obtain ⟨is, rfl, q3, q4⟩ := onInts.get q0
      obtain ⟨b, xs, rfl, g1, s1⟩ := rv
      rw [s1.ints] at g1
      refine ⟨b, is, rfl, SqT.of (r1.ext.at g1 rfl), q3, fun t c hn => ?_⟩
      have r2 := r1.layF (SetO X.w t (fun j => decide (j ∈ is)) c) hn
      exact ⟨t, _, c, rfl, upd_same, fun m k1 k2 => ⟨F1, S1, .int (m.length : Nat), x1, r2, rfl, q4 m k1 fun k => by rw [k2 k]; exact decide_eq_true_iff⟩⟩
    | _ => exact q0.elim
end
def onLst (k : Prop) : Ct → Prop
  | .lst _ => k
  | _ => False
def dClear (f : DF) : DS := fun E S => f S fun c S1 => onLst (E.nx S1) c
theorem js_clear {X : Cx} {z : Z} {e : Expr} {apos cpos pos : Pos} {f : DF} (h : JF X z e f) (hbase : attributeBase e "clear" X.env (eval e X.env) = eval e X.env := by rfl) (hline : (apos.endLine == cpos.line) = true := by rfl)
    (hs : swapsWith (.Call (.Attribute e "clear" apos) [] [] cpos) none pos.line X.env = pure false := by rfl) : JS X z (.Expr (.Call (.Attribute e "clear" apos) [] [] cpos) pos) (dClear f) :=
  JS.of (ps_expr (pe_bm0 PySem.F.plainAttrs_list PySem.F.slot_list_clear PySem.F.type_list_clear mt_clear h hbase hline) hs) fun F σ H S E r hf => tF.use r hf fun a H1 F1 S1 c x r1 fr q => by
    cases c with
    | lst l =>
      obtain ⟨xs, e1, _⟩ := fr.ct
      exact ⟨.inl ⟨rfl, xs, SqL.of e1⟩, a, xs, rfl, rfl, e1, F1, S1, x, r1.poke fr.out fr.new fr.ne, q⟩
    | _ => exact q.elim
theorem Rps.pairsOf {n : Nm} {F : Hp} : ∀ {m : List D} {ys : List V}, Rps n F m ys → (∀ d ∈ m, ∃ i j, d = .tup [.int i, .int j]) → ∀ x ∈ ys, ∃ t i j, x = V.ref t ∧ F t = some (.tup [.int i, .int j]) ∧ pairOf F x = (i, j)
  | [], ys, r, _, x, hx => by rw [show ys = [] from r] at hx; cases hx
  | a :: m, ys, ⟨u, r', e1, g1, g2⟩, hm, x, hx => by
    subst e1
    rcases List.mem_cons.mp hx with rfl | hx
    · obtain ⟨i, j, rfl⟩ := hm a (List.mem_cons_self ..)
      obtain ⟨t, e, g3, g4⟩ := pairOf_rp g1
      exact ⟨t, i, j, e, g3, g4⟩
    · exact Rps.pairsOf g2 (fun d hd => hm d (List.mem_cons_of_mem _ hd)) x hx
def fSortP (fo : DO) : DF := fun S R => fo S fun o S1 => view S1 (onLS fun l => (∀ d ∈ l, ∃ i j, d = .tup [.int i, .int j]) ∧ ∀ l' : List D, l'.Perm l → l'.Pairwise leP → R (.lst l') S1) o
theorem jf_sortP {X : Cx} {z : Z} {a : Expr} {p pos : Pos} {fo : DO} (hz : z.n.K = X.K) (hg : Gl X "sorted") (hm : X.mg "sorted" = none) (ha : JO X z a fo) (hv : bootBuiltins "sorted" = some (.builtin "sorted") := by decide +kernel)
    (he : starEach [a] X.env = (false, eval a X.env) :: starEach [] X.env := by rfl) (hpl : (backTo pos (starEach [] X.env)).any (·.1) = false := by rfl) : JF X z (.Call (.Name "sorted" p) [a] [] pos) (fSortP fo) :=
  JF.of (pe_callB cr_sortedPO hg hm hv (pa_cons ha pa_nil he) (he := he) (hpl := hpl)) fun F σ H S R r hf => tO.use r hf fun v H1 F1 S1 a1 x1 r1 h1 q1 => by
    obtain ⟨d, rv, q0⟩ := h1.view r1 q1
    obtain ⟨l, hd, hp, q2⟩ := onLS.get q0
    obtain ⟨c, xs, rfl, g1, s1⟩ := rv.list r1.ext hd
    have sx := s1.pairsOf hp
    refine ⟨c, xs, pairOf F1, rfl, hz ▸ g1, fun x hx => ?_, fun ys q hs hb hn => ?_⟩
    · obtain ⟨t, i, j, e, g, g2⟩ := sx x hx
      rw [g2]
      exact ⟨t, e, r1.ext.at g rfl⟩
    · obtain ⟨l', pm, s2⟩ := Rps.perm hb.perm s1
      obtain ⟨r3, fr⟩ := r1.fresh (c := .lst l') (o := .lst ys) hn ⟨_, upd_same, s2⟩
      refine ⟨F1, S1, _, q, rfl, x1, r3, fr, q2 l' pm ?_⟩
      refine Rps.pairs (P := fun x y => ltP (pairOf F1) y x = false) (fun d e x y g1 g2 hlt i j i' j' ed ee => ?_) s2 hs
      subst ed; subst ee
      obtain ⟨_, _, _, k1⟩ := pairOf_rp g1
      obtain ⟨_, _, _, k2⟩ := pairOf_rp g2
      have := SrtO.lexB_no.mp hlt
      rw [k1, k2] at this
      simp only at this
      omega
def onOwnF (R : Ct → SS → Prop) (S' : SS) : Slot → Prop
  | .own c => R c S'
  | _ => False
def fMv (i : Nat) : DF := fun S R => onOwnF R (setS S i .free) (getS S i)
theorem jf_mv {X : Cx} {z : Z} {e : Expr} {i : Nat} (h : PE X e (tVar i)) (p : z.pr i = none) : JF X z e (fMv i) := JF.of h fun F σ H S R r hf => by
  cases g : getS S i with
  | own c =>
    rw [fMv, g] at hf
    have g1 := getS_some g (by intro x; cases x)
    obtain ⟨a, e1, f1, n1, c1⟩ := r.sl i _ g1
    have n0 : z.H0 a = none := n1.elim id fun w => by rw [p] at w; cases w
    refine ⟨_, e1, F, _, c, a, rfl, Ext.refl, r.setFree, ⟨f1, n0, c1, fun j c' hj ej => ?_⟩, hf⟩
    rcases setS_get hj with ⟨rfl, e⟩ | ⟨ne, hj'⟩
    · cases e
    · exact ne (r.inj _ _ _ _ _ hj' g1 ej e1)
  | _ => rw [fMv, g] at hf; exact hf.elim
def fIf (t : DT) (f g : DF) : DF := fun S R => t S fun k S1 => (k = true → f S1 R) ∧ (k = false → g S1 R)
theorem jf_if {X : Cx} {z : Z} {c a b : Expr} {pos : Pos} {t : DT} {f g : DF} (hc : JT X z c t) (ha : JF X z a f) (hb : JF X z b g) : JF X z (.IfExp c a b pos) (fIf t f g) :=
  JF.of (pe_ifExp hc ha hb) fun F σ H S R rp hf => tT.use rp hf fun k H' F' S' x r' q => by
    cases k with
    | true => exact iteT (tF.use r' (q.1 rfl) fun a2 H2 F2 S2 c2 x2 r2 h2 q2 => ⟨F2, S2, c2, a2, rfl, x.trans x2, r2, h2, q2⟩)
    | false => exact iteF (tF.use r' (q.2 rfl) fun a2 H2 F2 S2 c2 x2 r2 h2 q2 => ⟨F2, S2, c2, a2, rfl, x.trans x2, r2, h2, q2⟩)
end DL

namespace DL
open PySem L2 PySem.Spec PyProof.Rows
/-- a list and a tuple, item by item in new pairs -/
def Itm (K : PySem.W.Frag) (a b : Addr) : It :=
  ⟨fun i G => ∃ (xs ys : List V) (x y : V), SqL K G a xs ∧ SqT K G b ys ∧ xs[i]? = some x ∧ ys[i]? = some y,
    fun i G v G' => ∃ (t : Addr) (x y : V), v = .ref t ∧ G t = none ∧ G' = upd G t (.tup [x, y]) ∧ (∀ xs, SqL K G a xs → xs[i]? = some x) ∧ ∀ ys, SqT K G b ys → ys[i]? = some y,
    fun i G => ∃ xs ys : List V, SqL K G a xs ∧ SqT K G b ys ∧ (xs.length ≤ i ∨ ys.length ≤ i)⟩
/-- an iterator that has come to its end -/
theorem endL {prog : Program} {w : World} {A : Around} (hh : A.handled = none) (it l : Addr) (items : Array Value) (i : Nat) (hi : items[i]? = none) :
    Draws prog w A it [it, l] i (fun _ _ => False) (fun k h => k = i ∧ h.IsListIter it l i ∧ h.IsList l items) where
  live := fun _ _ st => let ⟨o, ho, _⟩ := st.2.1; ⟨o, ho⟩
  frame := fun _ _ _ st hk => ⟨st.1, st.2.1.at fun o e => hk it (by simp) o e, st.2.2.at fun o e => hk l (by simp) o e⟩
  item := fun k s Q E hk st _ => by have := st.1; omega
  done := fun s Q E st hE => wpAny_nextOf_list_end hh st.2.1 st.2.2 hi hE
theorem endT {prog : Program} {w : World} {A : Around} (hh : A.handled = none) (it l : Addr) (items : Array Value) (i : Nat) (hi : items[i]? = none) :
    Draws prog w A it [it, l] i (fun _ _ => False) (fun k h => k = i ∧ h.IsTupleIter it l i ∧ h.IsTuple l items) where
  live := fun _ _ st => let ⟨o, ho, _⟩ := st.2.1; ⟨o, ho⟩
  frame := fun _ _ _ st hk => ⟨st.1, st.2.1.at fun o e => hk it (by simp) o e, st.2.2.at fun o e => hk l (by simp) o e⟩
  item := fun k s Q E hk st _ => by have := st.1; omega
  done := fun s Q E st hE => wpAny_nextOf_tuple_end hh st.2.1 st.2.2 hi hE
theorem turn_itm {P : Program} {w : World} {K : PySem.W.Frag} {elts : List Expr} {kk : Nat} {tpos : Pos} {a b z TI TO i1 i2 : Addr} (S : ZipSep2 z TI TO i1 i2 [i1, a] [i2, b]) (n1 : a ≠ i1) (n2 : b ≠ i2) :
    Turn P w K (.Tuple elts kk tpos) (Itm K a b) [z, TI, TO, i1, i2] z (fun i h => IsZip h z TI TO .none ∧ IsTupOf2 h TI (.ref i1) (.ref i2) ∧ (∃ u v, IsTupOf2 h TO u v) ∧ h.IsListIter i1 a i ∧ h.IsTupleIter i2 b i) where
  mem := by simp
  obj := fun i h ⟨hz, hI, ⟨u, v, hO⟩, ⟨o1, e1, _, d1⟩, ⟨o2, e2, _, d2⟩⟩ c hc => by
    have e' : c = z ∨ c = TI ∨ c = TO ∨ c = i1 ∨ c = i2 := by simpa using hc
    rcases e' with rfl | rfl | rfl | rfl | rfl
    · exact ⟨_, hz, fun v q => nomatch q⟩
    · exact ⟨_, hI, fun v q => nomatch q⟩
    · exact ⟨_, hO, fun v q => nomatch q⟩
    · exact ⟨o1, e1, fun v q => by rw [d1] at q; cases q⟩
    · exact ⟨o2, e2, fun v q => by rw [d2] at q; cases q⟩
  keep := fun i h h' ⟨hz, hI, ⟨u, v, hO⟩, h1, h2⟩ k => ⟨k z (by simp) _ hz, k TI (by simp) _ hI, ⟨u, v, k TO (by simp) _ hO⟩, h1.at fun o q => k i1 (by simp) o q, h2.at fun o q => k i2 (by simp) o q⟩
  item := by
    rintro X rfl rfl rfl hc i pn s τ G E J hf ⟨hz, hI, ⟨u0, v0, hO⟩, h1, h2⟩ ⟨xs, ys, x, y, qx, qy, hx, hy⟩
    obtain ⟨its, rv, p, _⟩ := J.list qx
    obtain ⟨its2, rv2, p2, _⟩ := J.tuple qy
    obtain ⟨u, hu, ru⟩ := rv.get hx
    obtain ⟨u2, hu2, ru2⟩ := rv2.get hy
    have quiet : X.A.in1.handled = none := by have := J.ok.hd hc; simp [this]
    have D1 := Draws.list (prog := X.prog) (w := X.w) (A := X.A.in1) quiet i1 a n1 its.toArray
    have D2 := Draws.tuple (prog := X.prog) (w := X.w) (A := X.A.in1) quiet i2 b n2 its2.toArray
    have l1 : i < its.length := (List.getElem?_eq_some_iff.mp hu).1
    have l2 : i < its2.length := (List.getElem?_eq_some_iff.mp hu2).1
    have lz : z < s.heap.objs.size := Heap.lt_size hz
    refine wpAny_pyNext_zipD2_item S D1 D2 hz hI hO ⟨h1, p.isList⟩ ⟨h2, p2⟩ (by simpa using l1) (by simpa using l2) fun y1 y2 h' tk e1 e2 z1 O1 s1 s2 t1 _ hk => ?_
    have f1 : y1 = u := by
      have e1 : its.toArray[i]? = some y1 := e1
      rw [List.getElem?_toArray, hu] at e1
      exact (Option.some.inj e1).symm
    have f2 : y2 = u2 := by
      have e2 : its2.toArray[i]? = some y2 := e2
      rw [List.getElem?_toArray, hu2] at e2
      exact (Option.some.inj e2).symm
    subst f1; subst f2
    refine ⟨_, rfl, wpAny_letOwnedTupleGo_zip (s := { s with heap := h', toks := tk }) z1 fun g z2 sb => ?_⟩
    have t2 : g.get? s.heap.objs.size = some { cls := .type "tuple", data := .seq #[y1, y2] } := by
      rw [sb.2 _ (Nat.ne_of_gt lz)]; exact t1
    have new : ObjOk X.prog X.w (upd G s.heap.objs.size (.tup [x, y])) g s.heap.objs.size (.tup [x, y]) :=
      ⟨by show 2 ≤ sizeLine; decide, [y1, y2], .cons ru (.cons ru2 .nil), ⟨_, t2, rfl, _, rfl⟩⟩
    have J1 : Inv X pn τ (upd G s.heap.objs.size (.tup [x, y])) { s with heap := g, toks := tk } := by
      refine J.turnedNew (t' := tk) (ch := [z, TI, TO, i1, i2]) (fun c o hb q => ?_) hf (Nat.le_refl _) new
      rw [sb.2 c fun q' => hb (by simp [q'])]
      exact hk c o (fun q' => hb (by simp [q'])) (fun q' => hb (by simp [q'])) (fun q' => hb (by simp [q'])) (fun q' => hb (by simp [q'])) q
    refine ⟨.ref s.heap.objs.size, _, J1, rfl, ⟨_, x, y, rfl, J.hok.fresh (Nat.le_refl _), rfl, fun l hl => by rw [J.list_inj hl qx]; exact hx, fun l hl => ?_⟩, ⟨z2, ?_, ⟨y1, y2, ?_⟩, ?_, ?_⟩, fun c hcm => ?_⟩
    · rw [J.tuple_inj hl qy]; exact hy
    · exact (sb.2 _ S.TIz).trans (hk _ _ S.TIz S.TITO S.TIi1 S.TIi2 hI)
    · exact (sb.2 _ S.TOz).trans O1
    · exact s1.1.at fun o q => (sb.2 _ (Ne.symm S.zi1)).trans q
    · exact s2.1.at fun o q => (sb.2 _ (Ne.symm S.zi2)).trans q
    · have lt : c < s.heap.objs.size := by
        have e' : c = z ∨ c = TI ∨ c = TO ∨ c = i1 ∨ c = i2 := by simpa using hcm
        rcases e' with rfl | rfl | rfl | rfl | rfl
        · exact lz
        · exact Heap.lt_size hI
        · exact Heap.lt_size hO
        · obtain ⟨_, e1, _⟩ := h1; exact Heap.lt_size e1
        · obtain ⟨_, e2, _⟩ := h2; exact Heap.lt_size e2
      rw [upd_ne (Nat.ne_of_lt lt)]
      exact (hf c hcm).1
  done := by
    rintro X rfl rfl rfl hc i pn s τ G E J hf ⟨hz, hI, ⟨u0, v0, hO⟩, h1, h2⟩ ⟨xs, ys, qx, qy, hend⟩
    obtain ⟨its, rv, p, _⟩ := J.list qx
    obtain ⟨its2, rv2, p2, _⟩ := J.tuple qy
    have quiet : X.A.in1.handled = none := by have := J.ok.hd hc; simp [this]
    have D1 := Draws.list (prog := X.prog) (w := X.w) (A := X.A.in1) quiet i1 a n1 its.toArray
    have D2 := Draws.tuple (prog := X.prog) (w := X.w) (A := X.A.in1) quiet i2 b n2 its2.toArray
    have m1 := rv.length
    have m2 := rv2.length
    have out : ∀ (h' : Heap) (tk : Tok), (∀ c o, c ≠ z → c ≠ TO → c ≠ i1 → c ≠ i2 → s.heap.get? c = some o → h'.get? c = some o) → (none : Option Value) = none ∧ Inv X pn τ G { s with heap := h', toks := tk } := fun h' tk hk => ⟨rfl, J.turnedL (t' := tk) (ch := [z, TI, TO, i1, i2]) (fun c o hb q =>
      hk c o (fun q' => hb (by simp [q'])) (fun q' => hb (by simp [q'])) (fun q' => hb (by simp [q'])) (fun q' => hb (by simp [q'])) q) hf⟩
    by_cases e1 : its.length ≤ i
    · have E1 := endL (prog := X.prog) (w := X.w) (A := X.A.in1) quiet i1 a its.toArray i (by simp; omega)
      by_cases e2 : i ≤ its2.length
      · exact wpAny_pyNext_zipD2_end S E1 D2 hz hI hO ⟨rfl, h1, p.isList⟩ ⟨h2, p2⟩ (Nat.le_refl _) (by simpa using e2) (.inl rfl) out
      · have E2 := endT (prog := X.prog) (w := X.w) (A := X.A.in1) quiet i2 b its2.toArray i (by simp; omega)
        exact wpAny_pyNext_zipD2_end S E1 E2 hz hI hO ⟨rfl, h1, p.isList⟩ ⟨rfl, h2, p2⟩ (Nat.le_refl _) (Nat.le_refl _) (.inl rfl) out
    · have E2 := endT (prog := X.prog) (w := X.w) (A := X.A.in1) quiet i2 b its2.toArray i (by simp; omega)
      exact wpAny_pyNext_zipD2_end S D1 E2 hz hI hO ⟨h1, p.isList⟩ ⟨rfl, h2, p2⟩ (by simp; omega) (Nat.le_refl _) (.inr rfl) out
  self := fun A i s Q E st h => wpAny_pyIter_zip st.1 h
theorem two_no {x y b : Nat} (h1 : x ≠ y) (h2 : x ≠ b) : (x : Addr) ∉ ([y, b] : List Addr) := fun h => by
  rcases List.mem_cons.mp h with e | h
  · exact h1 e
  · exact h2 (List.mem_singleton.mp h)
theorem sepN (N a b : Nat) (la : a < N) (lb : b < N) : ZipSep2 (N + 4) (N + 2) (N + 3) N (N + 1) [N, a] [N + 1, b] where
  TIz := show (N + 2 : Nat) ≠ N + 4 by omega
  TOz := show (N + 3 : Nat) ≠ N + 4 by omega
  TITO := show (N + 2 : Nat) ≠ N + 3 by omega
  TIi1 := show (N + 2 : Nat) ≠ N by omega
  mem1 := by simp
  zf1 := two_no (by omega) (by omega)
  Tf1 := two_no (by omega) (by omega)
  TIi2 := show (N + 2 : Nat) ≠ N + 1 by omega
  mem2 := by simp
  zf2 := two_no (by omega) (by omega)
  Tf2 := two_no (by omega) (by omega)
  sep1_2 := two_no (by omega) (by omega)
  sep2_1 := two_no (by omega) (by omega)
def iItm (K : PySem.W.Frag) (ta : TA) : TI := fun σ H R => ta σ H fun vs H1 => ∃ a b xs ys, vs = [.ref a, .ref b] ∧ SqL K H1 a xs ∧ SqT K H1 b ys ∧ R (Itm K a b) H1
theorem pi_itm {X : Cx} {e e2 : Expr} {ta : TA} {p pos tpos : Pos} {elts : List Expr} {kk : Nat} (hg : Gl X "zip") (hm : X.mg "zip" = none) (ha : PA X [e, e2] ta)
    (hs : starEach [e, e2] X.env = (false, eval e X.env) :: starEach [e2] X.env) (hpl : (backTo pos (starEach [e2] X.env)).any (·.1) = false) : PI X (.Tuple elts kk tpos) (.Call (.Name "zip" p) [e, e2] [] pos) (iItm X.K ta) := by
  refine ⟨fun pn s τ G R J h => Call_ (ld_blt J hg hm PyProof.Rows.boot_zip (PyProof.Rows.callWith_type1 (thn (ha.run pos pn s τ G _ J h) ?_) hs hpl))⟩
  rintro us s1 ⟨vs, G1, J1, r1, a, b, xs, ys, rfl, qx, qy, q⟩
  cases r1 with
  | cons r rr =>
    cases rr with
    | cons r' rr =>
      cases rr
      cases r
      cases r'
      obtain ⟨its, rv, p1, _⟩ := J1.list qx
      obtain ⟨its2, rv2, p2, _⟩ := J1.tuple qy
      have la : a < s1.heap.objs.size := p1.lt
      have lb : b < s1.heap.objs.size := by
        obtain ⟨o, e, _⟩ := p2
        exact Heap.lt_size e
      refine zip_begins2 (begins_list a its.toArray) (begins_tuple b its2.toArray) p1.isList p2 fun h' hz hI hO h1 h2 _ hk => wpAny_pyIter_zip hz ?_
      have sep := sepN s1.heap.objs.size a b la lb
      refine ⟨s1.heap.objs.size + 4, [s1.heap.objs.size + 4, s1.heap.objs.size + 2, s1.heap.objs.size + 3, s1.heap.objs.size, s1.heap.objs.size + 1], _, _, G1, rfl, J1.kept (t' := s1.toks) hk, turn_itm sep (Nat.ne_of_lt la) (Nat.ne_of_lt (Nat.lt_succ_of_lt lb)), ⟨hz, hI, ⟨_, _, hO⟩, ⟨_, h1, rfl, rfl⟩, ⟨_, h2, rfl, rfl⟩⟩, fun c hcm => ?_, q⟩
      have le : s1.heap.objs.size ≤ c := by
        have e' : c = s1.heap.objs.size + 4 ∨ c = s1.heap.objs.size + 2 ∨ c = s1.heap.objs.size + 3 ∨ c = s1.heap.objs.size ∨ c = s1.heap.objs.size + 1 := by simpa using hcm
        rcases e' with e | e | e | e | e <;> rw [e] <;> first | exact Nat.le_add_right _ _ | exact Nat.le_refl _
      exact J1.fpOk le (J1.hok.fresh le)
theorem itm_ok {n : Nm} {F : Hp} {p q : Addr} {xs ys : List V} {l m : List D} (h : SqL n.K F p xs) (s : Rps n F l xs) (h' : SqT n.K F q ys) (s' : Rps n F m ys) : ItOk n (Itm n.K p q) F (zipL l m) where
  go := fun F1 H1 i x1 x2 hi => by
    rw [zipL_len] at hi
    have i1 : i < xs.length := by rw [s.length]; omega
    have i2 : i < ys.length := by rw [s'.length]; omega
    exact ⟨xs, ys, xs[i], ys[i], x2.sqL (x1.sqL h), x2.sqT (x1.sqT h'), List.getElem?_eq_getElem i1, List.getElem?_eq_getElem i2⟩
  yld := fun F1 H1 i v H2 x1 x2 hy hi => by
    obtain ⟨t, x, y, rfl, ht, rfl, q1, q2⟩ := hy
    obtain ⟨d, e1, h1⟩ := s.getV (q1 xs (x2.sqL (x1.sqL h)))
    obtain ⟨e, e2, h2⟩ := s'.getV (q2 ys (x2.sqT (x1.sqT h')))
    have ft := x2.free ht
    have w := Ext.new (n := n) (o := .tup [x, y]) ft
    refine ⟨.tup [d, e], upd F1 t (.tup [x, y]), zipL_at e1 e2, w, fun c o hc => ?_, fun c o hc => ?_, fun c o hc => ?_, ⟨t, _, rfl, upd_same, _, _, rfl, (h1.mono x1).mono w, _, _, rfl, (h2.mono x1).mono w, rfl⟩⟩
    · by_cases e : c = t
      · subst e; rw [upd_same] at hc; cases hc; exact ⟨_, upd_same, .refl _⟩
      · rw [upd_ne e] at hc ⊢; exact x2 c o hc
    · by_cases e : c = t
      · subst e; exact .inr (.inl ht)
      · rw [upd_ne e] at hc; exact .inl ⟨o, hc⟩
    · rw [upd_ne (ne_of_none hc ht)]; exact hc
  stop := fun F1 H1 i x1 x2 hi => by
    rw [zipL_len] at hi
    exact ⟨xs, ys, x2.sqL (x1.sqL h), x2.sqT (x1.sqT h'), by rw [s.length, s'.length]; omega⟩
def onTp (k : List D → Prop) : D → Prop
  | .tup l => k l
  | _ => False
def wZipT (f g : DE) : DI := fun S R => f S fun d S1 => g S1 fun e S2 => onLS (fun l => onTp (fun m => R (zipL l m) S2) e) d
theorem ji_zipT {X : Cx} {z : Z} {a b : Expr} {p pos tpos : Pos} {elts : List Expr} {kk : Nat} {f g : DE} (hz : z.n.K = X.K) (hg : Gl X "zip") (hm : X.mg "zip" = none) (h : JE X z a f) (k : JE X z b g)
    (hs : starEach [a, b] X.env = (false, eval a X.env) :: starEach [b] X.env := by rfl) (hs2 : starEach [b] X.env = [(false, eval b X.env)] := by rfl) (hpl : (backTo pos (starEach [b] X.env)).any (·.1) = false := by rfl) : JI X z (.Tuple elts kk tpos) (.Call (.Name "zip" p) [a, b] [] pos) (wZipT f g) :=
  JI.of (pi_itm hg hm (pa_cons h (pa_cons k pa_nil hs2) hs) hs hpl) fun F σ H S Rw r hf => tE.use r hf fun v H1 F1 S1 d x1 r1 h1 q => tE.use r1 q fun w H2 F2 S2 e x2 r2 h2 q2 => by
    obtain ⟨l, hd, q3⟩ := onLS.get q2
    cases e with
    | tup m =>
      obtain ⟨c, xs, rfl, k1, s1⟩ := (h1.mono x2).list hd
      obtain ⟨c', ys, rfl, k2, s2⟩ := h2
      have k2' : SqT X.K F2 c' ys := SqT.of k2
      exact ⟨c, c', xs, ys, rfl, r2.ext.sqL (hz ▸ k1), r2.ext.sqT k2', F2, S2, _, x1.trans x2, r2, hz ▸ itm_ok k1 s1 (SqT.of k2) s2, q3⟩
    | _ => exact q3.elim
end DL

namespace DL
open PySem L2 PySem.Spec PyProof.Rows PySem.SeqAt PySem.W
def rMinL (K : PySem.W.Frag) : List V → Hp → VK → Prop := fun vs H Q => ∃ (a : Addr) (xs : List V) (ds : List PyData), vs = [V.ref a] ∧ SqL K H a xs ∧ 0 < xs.length ∧ DpAll K H xs ds ∧ AlikeAll ds ∧ PyData.depthAll ds ≤ 60 ∧
  ∀ (y : PyData) (ys : List PyData) (i : Nat) (v : V), ds = y :: ys → xs[i]? = some v → ds[i]? = some (minD y ys) → Q v H
theorem cr_minL {X : Cx} (hc : X.calm = true) (hu : X.A.units + 64 < cLine) : CallR X (.builtin "min") (rMinL X.K) := by
  intro pins s σ H vs us Q I r h
  obtain ⟨a, xs, ds, rfl, hs, hne, hd, al, dp, q⟩ := h
  obtain ⟨its, rv, hl, _⟩ := I.list hs
  rw [Vals.ref1 r]
  obtain ⟨as, hr⟩ := Dp.readsAll I ds xs its hd rv
  rcases ds with _ | ⟨y, ys⟩
  · cases hd; cases hne
  refine min_list_data (I.ok.hd hc) hl.isList hr al (by omega) fun i v h' tk bs hv hb hk => ?_
  obtain ⟨x, hx, rx⟩ := vals_at rv (show its[i]? = some v by simpa using hv)
  obtain ⟨cs, r3, hi, m3, _⟩ := readsAll_atA hr i v hv
  have e3 := alike_unique _ _ v _ _ (al.1 _ m3 _ minD_in) (reads_keeps hk r3) hb
  have e4 : (y :: ys)[i]? = some (minD y ys) := by
    rw [← e3, List.getD_eq_getElem?_getD, List.getElem?_eq_getElem hi]; rfl
  exact ⟨x, H, I.kept hk, rx, q y ys i x rfl hx e4⟩
/-- min of a list of whole numbers, or of tuples of them -/
def gMinK : GN := fun ds k => on1 (onLS fun l => 0 < l.length ∧ MinK l k) ds
theorem cd_minL {X : Cx} {z : Z} (hz : z.n.K = X.K) (hc : X.calm = true) (hu : X.A.units + 64 < cLine) : CallD X z (.builtin "min") gMinK := ⟨⟨_, cr_minL hc hu, fun {F σ H S vs ds R} r rv q => by
  obtain ⟨d, rfl, q0⟩ := on1.get q
  obtain ⟨v, rfl, w1⟩ := rv.one
  obtain ⟨l, hd, q1, q2⟩ := onLS.get q0
  obtain ⟨a, xs, rfl, g1, s1⟩ := w1.list r.ext hd
  obtain ⟨dts, k1, k2, k3, k4⟩ := minK_use (Q := fun v => ∃ d, Rp z.n F d v ∧ R d S) r.ext s1 q2 fun d v hk hr => ⟨d, hr, hk⟩
  exact ⟨a, xs, dts, rfl, hz ▸ g1, by rw [s1.length]; exact q1, hz ▸ k1, k2, k3, fun y ys i v e1 e2 e3 => by
    obtain ⟨d, hr, hk⟩ := k4 y ys i v e1 e2 e3
    exact ⟨F, S, d, Ext.refl, r, hr, hk⟩⟩⟩⟩
end DL

namespace DL
open PySem L2 PySem.Spec PyProof.Rows PySem.SeqAt PySem.W
def rNeK : R2 := fun x y H Q => ∃ a b ks ls, x = .ref a ∧ y = .ref b ∧ Rd H a (.dK ks) ∧ Rd H b (.dK ls) ∧ ks.length = ls.length ∧ (∀ p ∈ ks, valV ls p.1 = some p.2 ∧ flatB p.2 = true) ∧ Q (.bl false) H
theorem rd_ok {X : Cx} {pins : List (Addr × Obj)} {σ : L2.St} {H : Hp} {s : Shared} {a : Addr} {u : HO} (I : Inv X pins σ H s) (h : Rd H a u) : ObjOk X.prog X.w H s.heap a u := by
  rcases h with h | ⟨o, h⟩
  · exact I.hok a _ h
  · exact (show _ ∧ _ from I.hok a _ h).2
theorem op_neK {X : Cx} (hu : X.A.units < cLine) : OpR X (compareOp .NotEq) rNeK := by
  intro pins s σ H x y v u Q I rx ry h
  obtain ⟨a, b, ks, ls, rfl, rfl, ea, eb, hlen, hp, q⟩ := h
  obtain rfl : v = Value.ref a := rx
  obtain rfl : u = Value.ref b := ry
  obtain ⟨_, ya, va, ra, da⟩ := (show ObjOk X.prog X.w H s.heap a (.dK ks) from rd_ok I ea)
  obtain ⟨_, yb, vb, rb, db⟩ := (show ObjOk X.prog X.w H s.heap b (.dK ls) from rd_ok I eb)
  have hl : va.length = vb.length := by rw [← ra.length, ← rb.length]; exact hlen
  exact PySem.W.keq_ne (knd := mixKind X.prog X.w) (r := true) ya yb da db hu (fun _ => hits_all rb ra hp) (fin_bl I q (by simp [hl]))
/-- all values are whole numbers -/
def allInt (l : List (Key × D)) : Prop := ∀ p ∈ l, ∃ i, p.2 = .int i
/-- dicts of whole numbers that are the same, but for the order -/
def gNeK : G2 := fun d e k => onDK (fun l => onDK (fun m => l.length = m.length ∧ (∀ p ∈ l, lookK m p.1 = some p.2 ∧ ∃ i, p.2 = .int i) ∧ k (.bl false)) e) d
theorem rpk_mem {n : Nm} {F : Hp} : ∀ {l : List (Key × D)} {kvs : List (Key × V)}, RpK n F l kvs → ∀ p ∈ kvs, ∃ d, (p.1, d) ∈ l ∧ Rp n F d p.2
  | [], kvs, h, p, hp => by rw [show kvs = [] from h] at hp; cases hp
  | (j, d) :: l, kvs, ⟨v, r, e, h1, h2⟩, p, hp => by
    subst e
    rcases List.mem_cons.mp hp with rfl | hp
    · exact ⟨d, List.mem_cons_self .., h1⟩
    · obtain ⟨d', h3, h4⟩ := rpk_mem h2 p hp
      exact ⟨d', List.mem_cons_of_mem _ h3, h4⟩
theorem bd_neK {X : Cx} {z : Z} (hz : z.n.K = X.K) (hu : X.A.units + 64 < cLine) : BinD X z (compareOp .NotEq) gNeK :=
  ⟨⟨_, op_neK (by omega), fun x y H Q Q' k h => by
    obtain ⟨a, b, ks, ls, h1, h2, h3, h4, h5, h6, q⟩ := h
    exact ⟨a, b, ks, ls, h1, h2, h3, h4, h5, h6, k _ _ q⟩, ⟨fun {F σ H S x y d e k} r r1 r2 q => by
    obtain ⟨l, rfl, q⟩ := onDK.get q
    obtain ⟨m, rfl, hlen, hm, q⟩ := onDK.get q
    obtain ⟨a, ks, rfl, ha, s1⟩ := r1
    obtain ⟨b, ls, rfl, hb, s2⟩ := r2
    refine ⟨a, b, ks, ls, rfl, rfl, ha, hb, by rw [s1.len, s2.len]; exact hlen, fun p hp => ?_, F, .bl false, Ext.refl, r, rfl, q⟩
    obtain ⟨d, h1, h2⟩ := rpk_mem s1 p hp
    obtain ⟨h3, i, h4⟩ := hm _ h1
    obtain ⟨v, h5, h6⟩ := (s2.look (k := p.1)).1 d h3
    have h4 : d = .int i := h4
    subst h4
    have e1 : p.2 = .int i := h2
    have e2 : v = .int i := h6
    rw [h5, e1, e2]
    exact ⟨rfl, rfl⟩⟩⟩⟩
/-- dict(a dict): a copy -/
theorem call_dictC {X : Cx} : CallR X (.type "dict") (fun xs H Q => ∃ (a : Addr) (kvs : List (Key × V)), xs = [.ref a] ∧ Rd H a (.dK kvs) ∧ ∀ p, H p = none → Q (.ref p) (upd H p (.dK kvs))) := by
  intro pins s σ H xs us Q I r q
  obtain ⟨a, kvs, ex, e, q⟩ := q
  subst ex
  obtain ⟨u, eu, rx⟩ := vals1 r
  subst eu
  cases rx
  exact d_copyOf I e fun p s' hp I' => ⟨.ref p, _, I', rfl, q p hp⟩
def fCopy (fo : DO) : DF := fun S R => fo S fun o S1 => view S1 (onDK fun l => R (.dK l) S1) o
theorem jf_copy {X : Cx} {z : Z} {a : Expr} {p pos : Pos} {fo : DO} (hg : Gl X "dict") (hm : X.mg "dict" = none) (ha : JO X z a fo) (hv : bootBuiltins "dict" = some (.type "dict") := by decide +kernel)
    (he : starEach [a] X.env = (false, eval a X.env) :: starEach [] X.env := by rfl) (hpl : (backTo pos (starEach [] X.env)).any (·.1) = false := by rfl) : JF X z (.Call (.Name "dict" p) [a] [] pos) (fCopy fo) :=
  JF.of (pe_callTy call_dictC hg hm hv (pa_cons ha pa_nil he) (he := he) (hpl := hpl)) fun F σ H S R r hf => tO.use r hf fun v H1 F1 S1 a1 x1 r1 h1 q1 => by
    obtain ⟨d, rv, q0⟩ := h1.view r1 q1
    obtain ⟨l, rfl, q2⟩ := onDK.get q0
    obtain ⟨c, xs, rfl, h2, s1⟩ := rv
    refine ⟨c, xs, rfl, h2, fun t ht => ?_⟩
    obtain ⟨r4, fr⟩ := r1.fresh (c := .dK l) (o := .dK xs) ht ⟨_, upd_same, s1⟩
    exact ⟨F1, S1, _, t, rfl, x1, r4, fr, q2⟩
end DL

namespace DL
open PySem L2 PySem.Spec PyProof.Rows PySem.SeqAt
def dIsi2 (T U : String) (f : DO) : DE := fun S R => f S fun a S1 => view S1 (fun d => onSome (fun b => onSome (fun c => R (.bl (b || c)) S1) (isiT U d)) (isiT T d)) a
theorem je_isi2 {X : Cx} {z : Z} {e e1 e2 : Expr} {fo : DO} {T U : String} {k : Nat} {p pos tpos : Pos} (kT : IsiOk T) (kU : IsiOk U) (hz : z.n.K = X.K) (hx : JO X z e fo) (hT : PE X e1 (tC (.ty T))) (hU : PE X e2 (tC (.ty U))) (hg : Gl X "isinstance") (hm : X.mg "isinstance" = none) (hv : bootBuiltins "isinstance" = some (.builtin "isinstance") := by decide +kernel)
    (h1 : starEach [e1, e2] X.env = (false, eval e1 X.env) :: starEach [e2] X.env := by rfl) (h2 : starEach [e2] X.env = (false, eval e2 X.env) :: starEach [] X.env := by rfl)
    (h3 : starEach [.Tuple [e1, e2] k tpos] X.env = (false, eval (.Tuple [e1, e2] k tpos) X.env) :: starEach [] X.env := by rfl) (he : starEach [e, .Tuple [e1, e2] k tpos] X.env = (false, eval e X.env) :: starEach [.Tuple [e1, e2] k tpos] X.env := by rfl) (hpl : (backTo pos (starEach [.Tuple [e1, e2] k tpos] X.env)).any (·.1) = false := by rfl) :
    JE X z (.Call (.Name "isinstance" p) [e, .Tuple [e1, e2] k tpos] [] pos) (dIsi2 T U fo) :=
  JE.of (pe_callB call_isiT hg hm hv (pa_cons hx (pa_cons (pe_tup (pa_cons hT (pa_cons hU pa_nil h2) h1)) pa_nil h3) he) (he := he) (hpl := hpl)) fun F σ H S R r hf => tO.use r hf fun v H1 F1 S1 a x1 r1 ha q => by
    refine ⟨by show 2 ≤ sizeLine; rw [sizeLine_eq]; omega, fun tp htp => ?_⟩
    have r2 := r1.lay (.tup [.ty T, .ty U]) htp
    have xx : Ext z.n F1 (upd F1 tp (.tup [.ty T, .ty U])) := Ext.new (r1.ext.free htp)
    obtain ⟨d, rv, q1⟩ := (ha.mono xx).view r2 q
    obtain ⟨b, eb, q2⟩ := onSome.get q1
    obtain ⟨c, ec, q3⟩ := onSome.get q2
    obtain ⟨W, eW, kb⟩ := isi_name kT eb
    obtain ⟨W', eW', kc⟩ := isi_name kU ec
    rw [eW] at eW'; cases eW'
    refine ⟨v, tp, [.ty T, .ty U], .type W, [.type T, .type U], b || c, rfl, upd_same, .cons (.ty T) (.cons (.ty U) .nil), tyx_of hz r2.ext rv eW, ?_, _, S1, .bl (b || c), x1.trans xx, r2, rfl, q3⟩
    refine kitAny_cons (kit_ty kb) (fun e => ?_) fun e => by rw [e]; rfl
    subst e
    refine kitAny_cons (kit_ty kc) (fun e => ?_) fun e => by rw [e]; rfl
    subst e
    rfl
section
variable {prog : Program} {w : World} {A : Around} {E : Value → Shared → Prop} {s : Shared}
theorem sliceApplied_rev {sl : Addr} {vl vu vs : Value} {n : Nat} {Q : Int × Int × Nat → Shared → Prop} (hs : s.heap.IsSliceOf sl vl vu vs) (pl : IsPart vl none) (pu : IsPart vu none) (ps : IsPart vs (some (-1)))
    (h : Q (((n : Int) - 1), -1, n) s) : wpAny (model prog w) A (Builtin.Slice.sliceApplied (.ref sl) (pure (n : Int))) Q E s := by
  obtain ⟨os, hos, hcs, hds⟩ := id hs
  unfold Builtin.Slice.sliceApplied Builtin.Slice.sliceFields
  refine wpAny_bind (wpAny_bind (wpAny_field hos hds (x := vl) rfl (wpAny_bind (wpAny_field hos hds (x := vu) rfl (wpAny_bind (wpAny_field hos hds (x := vs) rfl (wpAny_pure ?_)))))))
  refine wpAny_bind (HT.slicePart_ ps ?_)
  show wpAny _ _ (if ((-1 : Int) == 0) = true then _ else _) _ _ s
  rw [if_neg (by decide)]
  refine wpAny_bind (HT.slicePart_ pl (wpAny_bind (HT.slicePart_ pu (wpAny_bind (wpAny_pure ?_)))))
  show wpAny _ _ (pure ((n : Int) - 1, (-1 : Int), Builtin.Slice.slicePlaces ((n : Int) - 1) (-1) (-1))) _ _ s
  have e : Builtin.Slice.slicePlaces ((n : Int) - 1) (-1) (-1) = n := by
    unfold Builtin.Slice.slicePlaces
    have h1 : ¬ ((-1 : Int) > 0) := by omega
    simp only [h1, if_false, Int.neg_neg, Int.ediv_one]
    split <;> omega
  rw [e]
  exact wpAny_pure h
theorem fm_congr {α β : Type} {f g : α → Option β} : ∀ {l : List α}, (∀ x ∈ l, f x = g x) → l.filterMap f = l.filterMap g
  | [], _ => rfl
  | a :: l, h => by
    rw [List.filterMap_cons, List.filterMap_cons, h a (List.mem_cons_self ..), fm_congr (l := l) fun x hx => h x (List.mem_cons_of_mem _ hx)]
theorem pick_rev (xs : Array Value) : ((List.range xs.size).filterMap fun (k : Nat) => xs[((xs.size : Int) - 1 + (k : Int) * (-1)).toNat]?).toArray = xs.toList.reverse.toArray := by
  have e : (List.range xs.size).filterMap (fun (k : Nat) => xs[((xs.size : Int) - 1 + (k : Int) * (-1)).toNat]?) = xs.toList.reverse := by
    have e1 : (List.range xs.size).filterMap (fun (k : Nat) => xs[((xs.size : Int) - 1 + (k : Int) * (-1)).toNat]?) = (List.range xs.size).filterMap fun (k : Nat) => xs.toList.reverse[k]? := by
      refine fm_congr fun k hk => ?_
      have hk := List.mem_range.mp hk
      rw [List.getElem?_reverse (by simpa using hk), Array.getElem?_toList, Array.length_toList]
      congr 1
      omega
    rw [e1]
    apply List.ext_getElem?
    intro i
    have : ∀ (l : List Value), (List.range l.length).filterMap (fun k => l[k]?) = l := fun l => by
      induction l with
      | nil => rfl
      | cons a l ih =>
        rw [List.length_cons, List.range_succ_eq_map, List.filterMap_cons]
        simp only [List.getElem?_cons_zero, List.filterMap_map, Function.comp_def, List.getElem?_cons_succ]
        rw [ih]
    have h2 := this xs.toList.reverse
    rw [List.length_reverse, Array.length_toList] at h2
    rw [h2]
  rw [e]
theorem getItem_tuple_rev {t sl : Addr} {items : Array Value} {vl vu vs : Value} {Q : Value → Shared → Prop} (ht : IsTup s.heap t items) (hs : s.heap.IsSliceOf sl vl vu vs) (pl : IsPart vl none) (pu : IsPart vu none) (ps : IsPart vs (some (-1)))
    (h : Q (.ref s.heap.objs.size) { s with heap := s.heap.push { cls := .type "tuple", data := .seq items.toList.reverse.toArray } })
    (hsz : items.size ≤ sizeLine) : wpAny (model prog w) A (getItem (.ref t) (.ref sl)) Q E s := by
  have htake : sizeOk (.seq items.toList.reverse.toArray) := by
    show items.toList.reverse.toArray.size ≤ sizeLine
    rw [List.size_toArray, List.length_reverse, Array.length_toList]
    omega
  obtain ⟨os, hos, hcs, hds⟩ := id hs
  have hTs : s.TypeIs (.ref sl) "slice" := ⟨os, hos, hcs⟩
  unfold getItem
  try with_reducible refine wpAny_holding ?_
  first | refine wpAny_bind (wpAny_pure ?_) | skip
  refine wpAny_bind (wpAny_sequenceKey ht.typeIs (by decide) ?_)
  refine wpAny_bind (wpAny_callSpecial?_slot (name := Str.ofString "__getitem__") ht.typeIs PyProof.Rows.slot_tuple_getitem
    (wpAny_call_entry PyProof.Rows.slot_tuple_getitem ht.typeIs entry_tuple_getitem ?_ (args_tuple_getitem _ _)))
  show wpAny _ _ (Builtin.Tuple.tupleItemsOf (.ref t) >>= _) _ _ s
  refine wpAny_bind (tupleItemsOf_ ht ?_)
  refine wpAny_bind (wpAny_typeOf hTs ?_)
  rw [if_pos (by decide)]
  refine wpAny_bind (sliceApplied_rev hs pl pu ps ?_)
  have hno : ¬ ((((items.size : Int) - 1) == 0 && (-1 : Int) == 1 && items.size == items.size) = true) := by
    intro q
    rw [Bool.and_eq_true, Bool.and_eq_true] at q
    have q2 : (-1 : Int) = 1 := eq_of_beq q.1.2
    omega
  show wpAny _ _ (if (((items.size : Int) - 1) == 0 && (-1 : Int) == 1 && items.size == items.size) = true then _ else _) _ _ s
  rw [if_neg hno, pick_rev]
  first
    | exact wpAny_bind (m := Builtin.Tuple.tupleExact _) (wpAny_newObj_type (wpAny_pure ⟨_, rfl, wpAny_pure h⟩) htake)
    | exact wpAny_bind (m := Builtin.Tuple.tupleExact _) (wpAny_newObj_type (wpAny_bind (wpAny_pure (wpAny_pure ⟨_, rfl, wpAny_pure h⟩))) htake)
    | exact wpAny_bind (wpAny_bind (m := Builtin.Tuple.tupleExact _) (wpAny_newObj_type (wpAny_pure (wpAny_pure ⟨_, rfl, wpAny_pure h⟩)) htake))
    | exact wpAny_bind (wpAny_bind (m := Builtin.Tuple.tupleExact _) (wpAny_newObj_type (wpAny_pure ⟨_, rfl, wpAny_pure h⟩) htake))
end
def tRevT (K : PySem.W.Frag) (te : TE) : TE := fun σ H Q => te σ H fun x H1 => ∃ a xs, x = .ref a ∧ SqT K H1 a xs ∧ ∀ p, H1 p = none → Q (.ref p) (upd H1 p (.tup xs.reverse))
theorem pe_revT {X : Cx} {e : Expr} {te : TE} {k : Nat} {p1 p2 p3 pos : Pos} (he : PE X e te) : PE X (.Subscript e (.Slice none none (some (.UnaryOp .USub (.Constant (.int 1) k p1) p2)) p3) pos) (tRevT X.K te) := by
  refine ⟨fun pins s σ H Q I h => ?_⟩
  refine Subscript_ (thn (he.run pins s σ H _ I h) fun v s1 ⟨x, H1, I1, r1, q1⟩ => ?_)
  obtain ⟨a, xs, ex, hx, q⟩ := q1
  subst ex
  cases r1
  have hst : PO X (some (.UnaryOp .USub (.Constant (.int 1) k p1) p2)) (tPart (tUn (rU fun i => .int (-i)) (tC (.int 1)))) := po_some (pe_un un_neg pe_int)
  refine wpAny_Slice (thn (po_none.run pins s1 σ H1 (fun o H2 => o = none ∧ H2 = H1) I1 ⟨rfl, rfl⟩) fun vl s2 ⟨l, H2, I2, pl, el, e2⟩ => ?_)
  subst el e2
  refine thn (po_none.run pins s2 σ H2 (fun o H3 => o = none ∧ H3 = H2) I2 ⟨rfl, rfl⟩) fun vu s3 ⟨u, H3, I3, pu, eu, e3⟩ => ?_
  subst eu e3
  refine thn (hst.run pins s3 σ H3 (fun o H4 => o = some (-1) ∧ H4 = H3) I3 ⟨1, rfl, -1, rfl, rfl, rfl⟩) fun vs s4 ⟨o, H4, I4, ps, eo, e4⟩ => ?_
  subst eo e4
  have I5 : Inv X pins σ H4 { s4 with heap := s4.heap.push { cls := .type "slice", data := .fields #[vl, vu, vs] } } := I4.kept (t' := s4.toks) fun b ob q => Heap.get?_push_of_some _ q
  obtain ⟨its, r, ht, hz⟩ := I5.tuple hx
  have hlen := r.length
  show wpAny (model X.prog X.w) X.A (subscriptTail e (.Slice none none (some (.UnaryOp .USub (.Constant (.int 1) k p1) p2)) p3) (.ref a) (.ref s4.heap.objs.size)) (EP X pins σ Q) X.xe { s4 with heap := s4.heap.push { cls := .type "slice", data := .fields #[vl, vu, vs] } }
  refine tail_any (ops := [.ref a, .ref s4.heap.objs.size]) ht.typeIs (PyProof.Rows.slot_tuple_getitem.lookup) ?_ (by with_unfolding_all rfl)
  refine getItem_tuple_rev ht (Heap.IsSliceOf.new _ vl vu vs) pl pu ps ?_ (by rw [List.size_toArray]; omega)
  refine ⟨.ref _, _, I5.laid (t' := s4.toks) (o := .tup xs.reverse) (fun b ob q => Heap.get?_push_of_some _ q) (Nat.le_refl _) ?_, rfl, q _ (I5.hok.fresh (Nat.le_refl _))⟩
  exact ⟨by rw [List.length_reverse]; omega, its.reverse, r.reverse, ⟨_, Heap.get?_push_size _ rfl, rfl, _, rfl⟩⟩
def dRevT (fo : DO) : DE := fun S R => fo S fun o S1 => view S1 (onT fun l => R (.tup l.reverse) S1) o
theorem je_revT {X : Cx} {z : Z} {e : Expr} {fo : DO} {k : Nat} {p1 p2 p3 pos : Pos} (he : JO X z e fo) : JE X z (.Subscript e (.Slice none none (some (.UnaryOp .USub (.Constant (.int 1) k p1) p2)) p3) pos) (dRevT fo) :=
  JE.of (pe_revT he) fun F σ H S R r hf => tO.use r hf fun v H1 F1 S1 a1 x1 r1 h1 q1 => by
    obtain ⟨d, rv, q2⟩ := h1.view r1 q1
    obtain ⟨l, rfl, q3⟩ := onT.get q2
    obtain ⟨a, xs, rfl, h2, s1⟩ := rv
    refine ⟨a, xs, rfl, SqT.of (r1.ext.at h2 rfl), fun p hp => ?_⟩
    exact ⟨_, S1, .tup l.reverse, x1.trans (Ext.new (r1.ext.free hp)), r1.lay _ hp, ⟨p, _, rfl, upd_same, s1.reverse.mono (Ext.new (r1.ext.free hp))⟩, q3⟩
def dPopAt (i : Nat) (fe : DE) : DE := fun S R => onOwnL (fun _ => fe S fun e S1 => onI (fun k => onOwnL (fun l => l.length ≤ sizeLine ∧ onSome (fun j => onSome (fun d => R d (setS S1 i (.own (.lst (l.eraseIdx j))))) l[j]?) (ixN l.length k)) (getS S1 i)) e) (getS S i)
theorem Rps.erase {n : Nm} {F : Hp} : ∀ {l : List D} {vs : List V} (j : Nat), Rps n F l vs → Rps n F (l.eraseIdx j) (vs.eraseIdx j)
  | [], _, j, h => by rw [show _ = [] from h]; exact rfl
  | d :: l, _, 0, ⟨v, r, e, _, h2⟩ => by subst e; exact h2
  | d :: l, _, j + 1, ⟨v, r, e, h1, h2⟩ => by subst e; exact ⟨v, _, rfl, h1, Rps.erase j h2⟩
section
variable {X : Cx} {z : Z} {o e : Expr} {fe : DE} {i : Nat} {apos cpos pos : Pos}
theorem je_popAt (ho : PE X o (tVar i)) (he : JE X z e fe) (hbase : attributeBase o "pop" X.env (eval o X.env) = eval o X.env := by rfl)
    (hfew : ((backTo cpos (starEach [e] X.env)).all (fun x => !x.1) && (backToKw cpos (keywordEach [] X.env)).all (fun x => x.1.isSome)
      && decide ([e].length + ([] : List Keyword).length + (if ([] : List Keyword).isEmpty then 0 else 1) < 30)) = true := by rfl)
    (hline : (apos.endLine == cpos.line) = true := by rfl) (hs : starEach [e] X.env = (false, eval e X.env) :: starEach [] X.env := by rfl) (hplain : (backTo cpos (starEach [] X.env)).any (·.1) = false := by rfl) :
    JE X z (.Call (.Attribute o "pop" apos) [e] [] cpos) (dPopAt i fe) :=
  JE.of (pe_bm PySem.F.plainAttrs_list PySem.F.slot_list_pop PySem.F.type_list_pop mt_popAt ho (pa_cons he pa_nil hs) hbase hfew hline hs hplain) fun F σ H S R rp hf => by
    obtain ⟨l0, g0, q1⟩ := onOwnL.get hf
    have g1 := getS_some g0 (by intro x; cases x)
    obtain ⟨a, e1, f1, n1, c1⟩ := rp.sl i _ g1
    obtain ⟨xs0, h0, s0⟩ := c1
    refine ⟨.ref a, e1, .inl ⟨rfl, xs0, SqL.of h0⟩, tE.use rp q1 fun w H1 F1 S1 d x1 r1 h1 q2 => ?_⟩
    obtain ⟨k, rfl, q3⟩ := onI.get q2
    obtain ⟨l, g2, small, q4⟩ := onOwnL.get q3
    obtain ⟨j, hj, q5⟩ := onSome.get q4
    obtain ⟨d', hd, q6⟩ := onSome.get q5
    have g3 := getS_some g2 (by intro x; cases x)
    obtain ⟨a', e2, f2, n2, c2⟩ := r1.sl i _ g3
    rw [e1] at e2; cases e2
    obtain ⟨xs, h2, s2⟩ := c2
    obtain ⟨v, hv, rv⟩ := s2.get hd
    have sz := sizeLine_eq
    have ⟨k1, k2, k3, k4⟩ := ixN_seq hj
    have hk : -(2 ^ 63) ≤ k ∧ k < 2 ^ 63 ∧ seqIndex? k xs.length = some j := by
      rw [s2.length]
      exact ⟨by omega, by omega, k1⟩
    refine ⟨a, xs, k, j, v, rfl, by rw [show w = .int k from h1], h2, hk.1, hk.2.1, hk.2.2, hv, ?_⟩
    exact ⟨F1, _, d', x1, r1.write (c' := .lst (l.eraseIdx j)) g3 e1 ⟨_, upd_same, s2.erase j⟩, rv, q6⟩
end
end DL

namespace DL
open PySem L2 PySem.Spec PyProof.Rows
theorem meets_enumT {v : Value} {o : Obj} {H : Heap → Prop} (B : Begins v o H) :
    Meets (Builtin.«enumerate.__new__» ⟨[.type "enumerate", v], []⟩) (fun _ R s => H s.heap ∧
      R (.ok (.ret (.ref (s.heap.push o).objs.size))) { s with heap := (s.heap.push o).push { cls := .type "enumerate", data := .fields #[.none, .bool false, .ref s.heap.objs.size, rawInt 0, .none, .none] } }) :=
  .of_wp fun prog w A R s h => by
    obtain ⟨hp, g, d, tk, os⟩ := s; obtain ⟨h1, h⟩ := h
    have hsub := sub_enumerate
    have q1 : ∀ {A' : Around} {E : Value → Shared → Prop} {Q : Value → Shared → Prop}, Q (.ref hp.objs.size) ⟨hp.push o, g, d, tk, os⟩ → wpAny (model prog w) A' (pyIter v) Q E ⟨hp, g, d, tk, os⟩ :=
      fun q => B.iter prog w _ _ ⟨hp, g, d, tk, os⟩ _ h1 q
    wp_walk using q1
    refine wpAny_stack_any fun st => wpAny_pure ?_
    split
    · rename_i c _ _ _ _ _
      cases (c == Value.type "enumerate")
      · wp_walk using q1
        exact ⟨_, rfl, h⟩
      · wp_walk using q1
        exact ⟨_, rfl, h⟩
    · wp_walk using q1
      exact ⟨_, rfl, h⟩
section
variable {prog : Program} {w : World} {A : Around} {E : Value → Shared → Prop} {s : Shared}
theorem call_enumT {v : Value} {o : Obj} {H : Heap → Prop} {Q : Value → Shared → Prop} (B : Begins v o H) (h1 : H s.heap)
    (h : ∀ h', IsEnum h' (s.heap.objs.size + 1) s.heap.objs.size 0 .none → h'.get? s.heap.objs.size = some o → h'.objs.size = s.heap.objs.size + 2 →
      (∀ b o, s.heap.get? b = some o → h'.get? b = some o) → Q (.ref (s.heap.objs.size + 1)) { s with heap := h' }) :
    wpAny (model prog w) A (call (.type "enumerate") [v]) Q E s := by
  refine callType_new F.called_enumerate (by decide) (F.typeCall_enumerate_1 _) (F.newCall_enumerate_1 _) (fun obj => F.args_object_init_2 obj _) F.entry_enumerate_new
    (meets_enumT B) ⟨h1, ?_⟩
  have hz : (s.heap.push o).objs.size = s.heap.objs.size + 1 := Heap.size_push ..
  show _ ∧ _
  rw [hz]
  have he : IsEnum ((s.heap.push o).push { cls := .type "enumerate", data := .fields #[.none, .bool false, .ref s.heap.objs.size, rawInt 0, .none, .none] }) (s.heap.objs.size + 1) s.heap.objs.size 0 .none := by
    have := Heap.get?_push_size (s.heap.push o) (o := { cls := .type "enumerate", data := .fields #[.none, .bool false, .ref s.heap.objs.size, rawInt 0, .none, .none] }) rfl
    rw [hz] at this; exact this
  refine ⟨⟨_, he, rfl⟩, h _ he (Heap.get?_push_of_some _ (Heap.get?_push_size _ B.free)) (by rw [Heap.size_push, hz]) fun b o x => Heap.get?_push_of_some _ (Heap.get?_push_of_some _ x)⟩
end
/-- the tuple at a, each item in a new pair -/
def Iteu (K : PySem.W.Frag) (a : Addr) : It :=
  ⟨fun i H => ∃ (xs : List V) (x : V), SqT K H a xs ∧ xs[i]? = some x, fun i H v H' => ∃ T x, v = .ref T ∧ H T = none ∧ H' = upd H T (.tup [.int (i : Nat), x]) ∧ ∀ xs, SqT K H a xs → xs[i]? = some x, fun i H => ∃ xs : List V, SqT K H a xs ∧ xs.length ≤ i⟩
theorem turn_enumT {P : Program} {w : World} {K : PySem.W.Frag} {elts : List Expr} {kk : Nat} {tpos : Pos} (a e it : Addr) (n1 : a ≠ it) (n2 : e ≠ a) (n3 : e ≠ it) :
    Turn P w K (.Tuple elts kk tpos) (Iteu K a) [e, it] e (fun i h => (∃ old, IsEnum h e it ((i : Nat) : Int) old) ∧ h.IsTupleIter it a i) where
  mem := by simp
  obj := fun i h st b hb => by
    obtain ⟨⟨old, he⟩, ⟨o, ho, hc, hd⟩⟩ := st
    have e' : b = e ∨ b = it := by simpa using hb
    rcases e' with z | z
    · rw [z]; exact ⟨_, he, fun v q => nomatch q⟩
    · rw [z]; exact ⟨o, ho, fun v q => by rw [hd] at q; cases q⟩
  keep := fun i h h' st k => let ⟨⟨old, he⟩, hi⟩ := st; ⟨⟨old, k e (by simp) _ he⟩, hi.at fun o q => k it (by simp) o q⟩
  item := by
    intro X hP hw hK hc i pins s σ H E I hf st hg
    subst hP hw hK
    obtain ⟨⟨old, he⟩, hit⟩ := st
    obtain ⟨xs, x, hq, hx⟩ := hg
    obtain ⟨its, rv, p, hz⟩ := I.tuple hq
    obtain ⟨u, hu, ru⟩ := rv.get hx
    have hel : e < s.heap.objs.size := Heap.lt_size he
    have hil : it < s.heap.objs.size := by obtain ⟨_, q, _⟩ := hit; exact Heap.lt_size q
    have quiet : X.A.in1.handled = none := by have := I.ok.hd hc; simp [this]
    have D1 := Draws.tuple (prog := X.prog) (w := X.w) (A := X.A.in1) quiet it a n1 its.toArray
    have l1 : i < its.length := (List.getElem?_eq_some_iff.mp hu).1
    refine wpAny_pyNext_enum_itemD D1 he ⟨hit, p⟩ (by simpa using l1) n3 (by simp [n2, n3]) fun y h' tk e1 ho hit' hT hsz hk => ?_
    have f1 : y = u := by
      have e1 : its.toArray[i]? = some y := e1
      rw [List.getElem?_toArray, hu] at e1
      exact (Option.some.inj e1).symm
    subst f1
    refine ⟨_, rfl, wpAny_letOwnedTupleGo_enum (s := { s with heap := h', toks := tk + 1 }) ho fun h'' he' sb => ?_⟩
    have hT2 : h''.get? s.heap.objs.size = some { cls := .type "tuple", data := .seq #[.int i tk, y] } := (sb.2 _ (Nat.ne_of_gt hel)).trans hT
    have new : ObjOk X.prog X.w (upd H s.heap.objs.size (.tup [.int (i : Nat), x])) h'' s.heap.objs.size (.tup [.int (i : Nat), x]) :=
      ⟨by show 2 ≤ sizeLine; decide, [.int i tk, y], .cons ⟨_, rfl⟩ (.cons ru .nil), ⟨_, hT2, rfl, _, rfl⟩⟩
    have I1 : Inv X pins σ (upd H s.heap.objs.size (.tup [.int (i : Nat), x])) { s with heap := h'', toks := tk + 1 } :=
      I.turnedNew (ch := [e, it]) (fun b ob hb q => (sb.2 b (fun z => hb (by simp [z]))).trans (hk b ob (fun z => hb (by simp [z])) (fun z => hb (by simp [z])) q)) hf (Nat.le_refl _) new
    refine ⟨.ref s.heap.objs.size, _, I1, rfl, ⟨_, x, rfl, I.hok.fresh (Nat.le_refl _), rfl, fun ys hy => by rw [I.tuple_inj hy hq]; exact hx⟩, ⟨⟨y, ?_⟩, hit'.1.at fun o q => (sb.2 it (Ne.symm n3)).trans q⟩, fun b hb => ?_⟩
    · have e1 : ((i + 1 : Nat) : Int) = (i : Int) + 1 := by omega
      rw [e1]; exact he'
    · have hb' : b < s.heap.objs.size := by
        have e' : b = e ∨ b = it := by simpa using hb
        rcases e' with z | z
        · rw [z]; exact hel
        · rw [z]; exact hil
      rw [upd_ne (Nat.ne_of_lt hb')]
      exact (hf b hb).1
  done := by
    intro X hP hw hK hc i pins s σ H E I hf st hg
    subst hP hw hK
    obtain ⟨⟨old, he⟩, hit⟩ := st
    obtain ⟨xs, hq, hx⟩ := hg
    obtain ⟨its, rv, p, hz⟩ := I.tuple hq
    obtain ⟨f0, f1, f2, f3, f4, f5⟩ := hf it (by simp)
    have hl := rv.length
    have quiet : X.A.in1.handled = none := by have := I.ok.hd hc; simp [this]
    have D1 := endT (prog := X.prog) (w := X.w) (A := X.A.in1) quiet it a its.toArray i (by simp; omega)
    exact wpAny_pyNext_enum_endD D1 he ⟨rfl, hit, p⟩ fun h' eb => ⟨rfl, I.turned (t' := s.toks) (fun b o hb q => eb b o hb q) f0 f1 f3 f4 f5⟩
  self := fun A i s Q E st h => let ⟨⟨_, he⟩, _⟩ := st; wpAny_pyIter_enum he h
def iEnumT (K : PySem.W.Frag) (ta : TA) : TI := fun σ H R => ta σ H fun vs H1 => ∃ a xs, vs = [.ref a] ∧ ((SqL K H1 a xs ∧ R (Ite K a) H1) ∨ (SqT K H1 a xs ∧ R (Iteu K a) H1))
theorem pi_enumT {X : Cx} {e : Expr} {ta : TA} {p pos tpos : Pos} {elts : List Expr} {kk : Nat} (hg : Gl X "enumerate") (hm : X.mg "enumerate" = none) (ha : PA X [e] ta) (hs : starEach [e] X.env = [(false, eval e X.env)] := by rfl) :
    PI X (.Tuple elts kk tpos) (.Call (.Name "enumerate" p) [e] [] pos) (iEnumT X.K ta) := by
  refine ⟨fun pins s σ H R I h => ?_⟩
  refine Call_ (ld_blt I hg hm boot_enumerate (PyProof.Rows.callWith_type1 (thn (ha.run pos pins s σ H _ I h) fun us s1 ⟨vs, H1, I1, r1, q1⟩ => ?_) hs rfl))
  obtain ⟨a, xs, ex, hq⟩ := q1
  subst ex
  cases r1 with
  | cons r rr =>
    cases rr
    cases r
    have low : ∀ b : Addr, b ∈ [s1.heap.objs.size + 1, s1.heap.objs.size] → s1.heap.objs.size ≤ b := fun b hb => by
      have e' : b = s1.heap.objs.size + 1 ∨ b = s1.heap.objs.size := by simpa using hb
      rcases e' with z | z
      · rw [z]; exact Nat.le_add_right _ _
      · rw [z]; exact Nat.le_refl _
    rcases hq with ⟨hq, q⟩ | ⟨hq, q⟩
    · obtain ⟨its, rv, p', hz⟩ := I1.list hq
      refine call_enumerate_list p'.isList fun h' he hit hsz hk => wpAny_pyIter_enum he ?_
      have I2 : Inv X pins σ H1 { s1 with heap := h' } := I1.kept (t' := s1.toks) hk
      exact ⟨s1.heap.objs.size + 1, [s1.heap.objs.size + 1, s1.heap.objs.size], _, _, H1, rfl, I2, turn_enum a (s1.heap.objs.size + 1) s1.heap.objs.size, ⟨⟨.none, he⟩, hit, Nat.succ_ne_self _⟩, fun b hb => I1.fpOk (low b hb) (I1.hok.fresh (low b hb)), q⟩
    · obtain ⟨its, rv, p', hz⟩ := I1.tuple hq
      have la : a < s1.heap.objs.size := by
        obtain ⟨o, e, _⟩ := p'
        exact Heap.lt_size e
      refine call_enumT (begins_tuple a its.toArray) p' fun h' he hit hsz hk => wpAny_pyIter_enum he ?_
      have I2 : Inv X pins σ H1 { s1 with heap := h' } := I1.kept (t' := s1.toks) hk
      exact ⟨s1.heap.objs.size + 1, [s1.heap.objs.size + 1, s1.heap.objs.size], _, _, H1, rfl, I2, turn_enumT a (s1.heap.objs.size + 1) s1.heap.objs.size (Nat.ne_of_lt la) (Nat.ne_of_gt (Nat.lt_succ_of_lt la)) (Nat.succ_ne_self _), ⟨⟨.none, he⟩, ⟨_, hit, rfl, rfl⟩⟩, fun b hb => I1.fpOk (low b hb) (I1.hok.fresh (low b hb)), q⟩
theorem iteu_ok {n : Nm} {F : Hp} {p : Addr} {xs : List V} {l : List D} (h : SqT n.K F p xs) (s : Rps n F l xs) : ItOk n (Iteu n.K p) F (numL 0 l) where
  go := fun F1 H1 i x1 x2 hi => by
    rw [numL_len] at hi
    have i1 : i < xs.length := by rw [s.length]; omega
    exact ⟨xs, xs[i], x2.sqT (x1.sqT h), List.getElem?_eq_getElem i1⟩
  yld := fun F1 H1 i v H2 x1 x2 hy hi => by
    obtain ⟨t, x, rfl, ht, rfl, q1⟩ := hy
    obtain ⟨d, e1, h1⟩ := s.getV (q1 xs (x2.sqT (x1.sqT h)))
    have ft := x2.free ht
    have w := Ext.new (n := n) (o := .tup [.int (i : Nat), x]) ft
    refine ⟨.tup [.int (i : Nat), d], upd F1 t (.tup [.int (i : Nat), x]), ?_, w, fun c o hc => ?_, fun c o hc => ?_, fun c o hc => ?_, ⟨t, _, rfl, upd_same, _, _, rfl, rfl, _, _, rfl, (h1.mono x1).mono w, rfl⟩⟩
    · rw [numL_at, e1]; simp
    · by_cases e : c = t
      · subst e; rw [upd_same] at hc; cases hc; exact ⟨_, upd_same, .refl _⟩
      · rw [upd_ne e] at hc ⊢; exact x2 c o hc
    · by_cases e : c = t
      · subst e; exact .inr (.inl ht)
      · rw [upd_ne e] at hc; exact .inl ⟨o, hc⟩
    · rw [upd_ne (ne_of_none hc ht)]; exact hc
  stop := fun F1 H1 i x1 x2 hi => by
    rw [numL_len] at hi
    exact ⟨xs, x2.sqT (x1.sqT h), by rw [s.length]; omega⟩
/-- a list, the script, a tuple, the empty tuple of a default -/
@[reducible] def onSq (k : List D → Prop) : D → Prop
  | .lst l => k l
  | .scr ns => k (ns.map D.int)
  | .tup l => k l
  | .stt => k []
  | _ => False
def wEnumA (f : DE) : DI := fun S R => f S fun d S' => onSq (fun l => R (numL 0 l) S') d
theorem ji_enumA {X : Cx} {z : Z} {a : Expr} {p pos tpos : Pos} {elts : List Expr} {kk : Nat} {f : DE} (hz : z.n.K = X.K) (hg : Gl X "enumerate") (hm : X.mg "enumerate" = none) (h : JE X z a f) (hs : starEach [a] X.env = [(false, eval a X.env)] := by rfl) : JI X z (.Tuple elts kk tpos) (.Call (.Name "enumerate" p) [a] [] pos) (wEnumA f) :=
  JI.of (pi_enumT hg hm (pa_cons h pa_nil hs) hs) fun F σ H S Rw r hf => tE.use r hf fun v H1 F1 S1 d x1 r1 h1 q => by
    cases d with
    | lst l =>
      obtain ⟨c, xs, rfl, h2, s⟩ := h1.list (.inl rfl)
      exact ⟨c, xs, rfl, .inl ⟨r1.ext.sqL (hz ▸ h2), F1, S1, _, x1, r1, hz ▸ ite_ok h2 s, q⟩⟩
    | scr ns =>
      obtain ⟨c, xs, rfl, h2, s⟩ := h1.list (.inr ⟨_, rfl, rfl⟩)
      exact ⟨c, xs, rfl, .inl ⟨r1.ext.sqL (hz ▸ h2), F1, S1, _, x1, r1, hz ▸ ite_ok h2 s, q⟩⟩
    | tup l =>
      obtain ⟨c, xs, rfl, h2, s⟩ := h1
      have h3 : SqT z.n.K F1 c xs := SqT.of h2
      exact ⟨c, xs, rfl, .inr ⟨r1.ext.sqT (hz ▸ h3), F1, S1, _, x1, r1, hz ▸ iteu_ok h3 s, q⟩⟩
    | stt =>
      obtain ⟨c, rfl, hp⟩ := h1
      have h3 : SqT z.n.K F1 c [] := by
        rcases hp with (h | ⟨o, h⟩) | h
        · cases h
        · cases h
        · exact .inr h
      exact ⟨c, [], rfl, .inr ⟨r1.ext.sqT (hz ▸ h3), F1, S1, _, x1, r1, hz ▸ iteu_ok (l := []) h3 rfl, q⟩⟩
    | _ => exact q.elim
end DL

namespace DL
open PySem L2 PySem.Spec PyProof.Rows
structure DfT (K : PySem.W.Frag) (fd : FuncData) (ps : List Str) : Prop where
  ex : ∃ (T : Addr) (ds : List Value), Vals [V.ref T] ds ∧ Binds K fd ps ds ∧ SqT K (fun _ => none) T []
structure DfI (K : PySem.W.Frag) (fd : FuncData) (ps : List Str) (i : Int) : Prop where
  ex : ∃ ds : List Value, Vals [V.int i] ds ∧ Binds K fd ps ds
theorem empB_ok {K : PySem.W.Frag} {a : Addr} (h : empB K a = true) (H : Hp) : SqT K H a [] := by
  unfold empB at h
  cases q : K.lookup a with
  | none =>
    rw [q] at h
    cases h
  | some o =>
    obtain ⟨oc, od, dt, osl⟩ := o
    rw [q] at h
    cases oc with
    | type c =>
      cases dt with
      | seq its n =>
        have h' : (decide (c = "tuple") && decide (its.toList = [])) = true := h
        obtain ⟨h1, h2⟩ := Bool.and_eq_true_iff.mp h'
        have h2 : its.toList = [] := of_decide_eq_true h2
        have hz : its.size = 0 := by rw [← Array.length_toList, h2]; rfl
        exact .inr ⟨_, its, n, q, congrArg Value.type (of_decide_eq_true h1), rfl, by rw [hz]; exact Nat.zero_le _, by rw [h2]; exact .nil⟩
      | _ => cases h
    | _ => cases dt <;> cases h
theorem dft_of {K : PySem.W.Frag} {x qual n : Str} {params : Arguments} {body : List Stmt} {scope : Scope} {f T : Addr} {fd : FuncData} {ps : List Str} (m : Nat) (G : FunD K x qual params body scope [] [(n, V.ref T)] f fd) (hT : empB K T = true) (hn : m + 1 = ps.length)
    (h : ∀ (D : Addr) (doc pm : Value) (an : Option Addr) (cdv ct : Value) (us ks : List Value), us.length = m → ks.length = 1 →
      KwChain D ([n].zip ks) (bindArgs (PySem.W.fnOf x qual params body scope .none (.ref D) doc pm an cdv ct) ⟨us, []⟩) (ps.zip (us ++ ks))) : DfT K fd ps := by
  obtain ⟨ds, r, b⟩ := G.binds0 m (by simp) hn h
  exact ⟨T, ds, r, b, empB_ok hT _⟩
theorem dfi_of {K : PySem.W.Frag} {x qual n : Str} {params : Arguments} {body : List Stmt} {scope : Scope} {f : Addr} {i : Int} {fd : FuncData} {ps : List Str} (m : Nat) (G : FunD K x qual params body scope [] [(n, V.int i)] f fd) (hn : m + 1 = ps.length)
    (h : ∀ (D : Addr) (doc pm : Value) (an : Option Addr) (cdv ct : Value) (us ks : List Value), us.length = m → ks.length = 1 →
      KwChain D ([n].zip ks) (bindArgs (PySem.W.fnOf x qual params body scope .none (.ref D) doc pm an cdv ct) ⟨us, []⟩) (ps.zip (us ++ ks))) : DfI K fd ps i := by
  obtain ⟨ds, r, b⟩ := G.binds0 m (by simp) hn h
  exact ⟨ds, r, b⟩
section
variable {X : Cx} {z : Z} {CX : CXT} {k : Nat} {f : Addr} {fd : FuncData} {ps : List Str} {φ : SpD} {E : XK} {x m : Str} {p pos apos : Pos} {e o : Expr} {es : List Expr} {fa : DA} {fo : DO}
theorem stt_rps {K : PySem.W.Frag} {T : Addr} {n : Nm} (hz : n.K = K) (h : SqT K (fun _ => none) T []) (F : Hp) : Rps n F [.stt] [V.ref T] := ⟨_, [], rfl, ⟨T, rfl, hz ▸ h⟩, rfl⟩
theorem je_callDT (hz : z.n.K = X.K) (F : FnOk X.prog X.w X.K X.mg X.base CX k f fd ps (spOf z.n φ)) (hr : Room k X.A) (hg : Gl X x) (hm : X.mg x = some (.ref f)) (hk : PySem.W.keepIn X.K (.ref f) = true) (hb : DfT X.K fd ps) (hx : Passes CX X E)
    (ha : JA X z (e :: es) fa) (hdb : (x == ("__debug__" : Str)) = false := by decide) (he : starEach (e :: es) X.env = (false, eval e X.env) :: starEach es X.env := by rfl) (hpl : (backTo pos (starEach es X.env)).any (·.1) = false := by rfl) :
    JE X z (.Call (.Name x p) (e :: es) [] pos) (dCall φ [.stt] fa) := by
  obtain ⟨T, ds, r, b, h⟩ := hb.ex
  exact je_call F hr hg hm hk b r hx (fun _ F => stt_rps hz h F) ha hdb he hpl
theorem jf_callDT (hz : z.n.K = X.K) (F : FnOk X.prog X.w X.K X.mg X.base CX k f fd ps (spOf z.n φ)) (hr : Room k X.A) (hg : Gl X x) (hm : X.mg x = some (.ref f)) (hk : PySem.W.keepIn X.K (.ref f) = true) (hb : DfT X.K fd ps) (hx : Passes CX X E)
    (ha : JA X z (e :: es) fa) (hdb : (x == ("__debug__" : Str)) = false := by decide) (he : starEach (e :: es) X.env = (false, eval e X.env) :: starEach es X.env := by rfl) (hpl : (backTo pos (starEach es X.env)).any (·.1) = false := by rfl) :
    JF X z (.Call (.Name x p) (e :: es) [] pos) (fCall φ [.stt] fa) := by
  obtain ⟨T, ds, r, b, h⟩ := hb.ex
  exact jf_call F hr hg hm hk b r hx (fun _ F => stt_rps hz h F) ha hdb he hpl
theorem je_callDI {i : Int} (F : FnOk X.prog X.w X.K X.mg X.base CX k f fd ps (spOf z.n φ)) (hr : Room k X.A) (hg : Gl X x) (hm : X.mg x = some (.ref f)) (hk : PySem.W.keepIn X.K (.ref f) = true) (hb : DfI X.K fd ps i) (hx : Passes CX X E)
    (ha : JA X z (e :: es) fa) (hdb : (x == ("__debug__" : Str)) = false := by decide) (he : starEach (e :: es) X.env = (false, eval e X.env) :: starEach es X.env := by rfl) (hpl : (backTo pos (starEach es X.env)).any (·.1) = false := by rfl) :
    JE X z (.Call (.Name x p) (e :: es) [] pos) (dCall φ [.int i] fa) := by
  obtain ⟨ds, r, b⟩ := hb.ex
  exact je_call F hr hg hm hk b r hx (fun _ F => ⟨_, [], rfl, rfl, rfl⟩) ha hdb he hpl
end
section
variable {X : Cx} {z : Z} {CX : CXT} {k n : Nat} {f : Addr} {fd : FuncData} {ps ks : List Str} {ix : List Nat} {φ : SpD} {E : XK} {x m : Str} {p pos apos : Pos} {e o : Expr} {es : List Expr} {kws : List Keyword} {fa : DA} {fo : DO} {fk : DV}
def fCallW (n m : Nat) (φ : SpD) (ix : List Nat) (f : DA) (g : DV) : DF := fun S R => f S fun as S1 => g S1 fun ds S2 => as.length = n ∧ ds.length = m ∧ le1 (ownR S2 as) ∧ res S2 as fun ars => φ (ars ++ allVal (pick ix ds)) fun r cs => onOwn (fun c => R c (putR S2 (ownR S2 as) cs)) r
theorem jf_callW (F : FnOk X.prog X.w X.K X.mg X.base CX k f fd ps (spOf z.n φ)) (hr : Room k X.A) (hg : Gl X x) (hm : X.mg x = some (.ref f)) (hk : PySem.W.keepIn X.K (.ref f) = true) (hb : KwB X.K fd ps n ks ix) (hx : Passes CX X E)
    (ha : JA X z (e :: es) fa) (hkw : JK X z kws fk) (hall : (backToKw pos (keywordEach kws X.env)).all (·.1.isSome) = true := by rfl) (hks : (backToKw pos (keywordEach kws X.env)).filterMap (·.1) = ks := by rfl)
    (hdb : (x == ("__debug__" : Str)) = false := by decide) (he : starEach (e :: es) X.env = (false, eval e X.env) :: starEach es X.env := by rfl)
    (hpl : ((backTo pos (starEach (e :: es) X.env)).any (·.1) || (backToKw pos (keywordEach kws X.env)).any (·.1.isNone)) = false := by rfl) {j : Nat} (hj : ks.length = j := by rfl) :
    JF X z (.Call (.Name x p) (e :: es) kws pos) (fCallW n j φ ix fa fk) := hj ▸
  JF.of (pe_callW F hr hg hm hk hb hx ha hkw hall hks hdb he hpl) fun F σ H S R r hf => tA.use r hf fun vs H1 F1 S1 as x1 r1 h1 q => tV.use r1 q fun zs H2 F2 S2 ds x2 r2 h2 ⟨el0, el, l1, q2⟩ => ⟨by rw [AOks.length h1]; exact el0, by rw [h2.length]; exact el, call_use (h2.pick ix) r2 (AOks.mono x2 h1) l1 q2 fun v H' F' rr cs x r' ok q' => by
    cases rr with
    | val d => exact q'.elim
    | two d l => exact q'.elim
    | own c =>
      obtain ⟨a, e, fr⟩ := ok
      exact ⟨F', _, c, a, e, (x1.trans x2).trans x, r', fr, q'⟩⟩
end
end DL

namespace DL
open PySem L2 PySem.Spec PyProof.Rows
def gSortDI : GN := fun ds k => on1 (fun d => match d with
  | .dK l => onIK (fun ns => ns.length < 64 ∧ ∀ ns' : List Int, ns'.Perm ns → ns'.Pairwise (· ≤ ·) → k (.lst (ns'.map D.int))) l
  | _ => False) ds
theorem cr_sortDI {X : Cx} (hc : X.calm = true) : CallR X (.builtin "sorted") (fun xs H Q => ∃ (a : Addr) (kvs : List (Key × V)) (ks : List Int), xs = [.ref a] ∧ Rd H a (.dK kvs) ∧ kvs.map (·.1) = ks.map Sum.inl ∧ ks.length < 64 ∧
    ∀ (ys : List Int) (p : Addr), ys.Perm ks → ys.Pairwise (· ≤ ·) → H p = none → Q (.ref p) (upd H p (.lst (ys.map V.int)))) := call_sortedDI hc
theorem cd_sortDI {X : Cx} {z : Z} (hc : X.calm = true) : CallD X z (.builtin "sorted") gSortDI := ⟨⟨_, cr_sortDI hc, fun {F σ H S vs ds R} r rv q => by
  obtain ⟨d, rfl, q0⟩ := on1.get q
  obtain ⟨v, rfl, w1⟩ := rv.one
  cases d with
  | dK l =>
    obtain ⟨ns, ek, q1, q2⟩ := onIK.get q0
    obtain ⟨c, kvs, rfl, h2, s1⟩ := w1
    exact ⟨c, kvs, ns, rfl, h2, s1.keys.trans ek, q1, fun ns' p hp hs hn => ⟨_, S, .lst (ns'.map D.int), Ext.new (r.ext.free hn), r.lay _ hn, ⟨p, _, rfl, upd_same, Rps.of_ints ns'⟩, q2 ns' hp hs⟩⟩
  | _ => exact q0.elim⟩⟩
end DL

namespace DL
open PySem L2 PySem.Spec PyProof.Rows
def tSumV (te : TE) : TE := fun σ H Q => te σ H fun x H1 => ∃ (d : Addr) (ws : List (List Key × V)) (ns : List Int), x = .ref d ∧ Rd H1 d (.dT ws) ∧ ws.map (·.2) = ns.map V.int ∧ Q (.int ns.sum) H1
theorem preSum_list (ns : List Int) : ∀ j, j ≤ ns.length → PySem.preSum (fun i => ns.getD i 0) j = (ns.take j).sum
  | 0, _ => by simp [PySem.preSum]
  | j + 1, h => by
    rw [PySem.preSum, preSum_list ns j (by omega), List.take_succ_eq_append_getElem (by omega), List.sum_append]
    simp [List.getD_eq_getElem?_getD, List.getElem?_eq_getElem (show j < ns.length by omega)]
theorem pe_sumVals {X : Cx} {a : Expr} {p apos cpos pos : Pos} {te : TE} (hc : X.calm = true) (he : PE X a te) (hg : Gl X "sum") (hm : X.mg "sum" = none) (hbase : attributeBase a "values" X.env (eval a X.env) = eval a X.env) (hline : (apos.endLine == cpos.line) = true)
    (hs : starEach [.Call (.Attribute a "values" apos) [] [] cpos] X.env = (false, eval (.Call (.Attribute a "values" apos) [] [] cpos) X.env) :: starEach [] X.env) :
    PE X (.Call (.Name "sum" p) [.Call (.Attribute a "values" apos) [] [] cpos] [] pos) (tSumV te) := by
  refine ⟨fun pn s τ G Q J hq => wpAny_Call_Name_kw (ld_blt J hg hm PyProof.Rows.boot_sum (PyProof.Rows.callWith_builtin1 ?_ hs rfl))⟩
  rw [hs]
  refine Calls.spliced_cons (wpAny_Call_method (T := "dict") (id := "dict.values") hbase rfl hline F.plainAttrs_dict F.slot_dict_values F.type_dict_values (thn (he.run pn s τ G _ J hq) ?_))
  rintro u s1 ⟨x, G1, J1, rx, d, ws, ns, rfl, hd, ens, q⟩
  cases (show u = Value.ref d from rx)
  obtain ⟨z, low, ks, pr, od, es, ep, there, ex, ed, ee, _⟩ := (show ObjOk X.prog X.w G1 s1.heap d (.dT ws) from hd.ok J1.hok)
  have m1 := size_of_entries ee
  have m2 : ws.length = ks.length := Paired.length pr
  have raw : s1.heap.DictRaw d es ep := ⟨od, there, ex, ed⟩
  refine ⟨raw.typeIs, fun c hc => ?_, ?_⟩
  · cases hc
    exact ⟨od, there, ex.2.1⟩
  have J2 : Inv X pn τ G1 { s1 with heap := s1.heap.push { cls := .type "dict_values", data := .fields #[.ref d] } } := J1.kept (t' := s1.toks) fun c ob q => Heap.get?_push_of_some _ q
  refine method_meetsIn F.slot_dict_values F.entry_dict_values rfl (PySem.evalArgs_none ⟨rfl, raw.typeIs, F.args_dict_values_1 _, _, meets_dict_values_raw d low, ⟨⟨es, ep, raw⟩, Calls.spliced_nil ?_⟩⟩)
  have quiet : X.A.in1.handled = none := by have := J2.ok.hd hc; simp [this]
  have raw2 := raw.push { cls := .type "dict_values", data := .fields #[.ref d] }
  have view : (s1.heap.push { cls := .type "dict_values", data := .fields #[.ref d] }).IsValuesView s1.heap.objs.size d := ⟨_, Heap.get?_push_size _ rfl, rfl, rfl⟩
  refine PySem.call_sum_walkG (wpAny_pyIter_values_raw view raw2 ?_)
  have lt : d < (s1.heap.push { cls := .type "dict_values", data := .fields #[.ref d] }).objs.size := raw2.lt_size
  have lens : ns.length = es.size := by
    have := congrArg List.length ens
    rw [List.length_map, List.length_map] at this
    omega
  refine ⟨_, _, _, _, _, _, fun i => ns.getD i 0, rfl, Walks.rawValues quiet _ d (Nat.ne_of_lt lt) es ep, ⟨⟨_, Heap.get?_push_size _ rfl, rfl, rfl⟩, raw2.push _⟩, fun b hb => ?_, fun i v hv => ?_, fun h' tk t' kp => ?_⟩
  · have hb' : b = (s1.heap.push { cls := .type "dict_values", data := .fields #[.ref d] }).objs.size ∨ b = d := by simpa using hb
    rw [Heap.size_push]
    rcases hb' with rfl | rfl
    · exact Nat.lt_succ_self _
    · exact Nat.lt_succ_of_lt lt
  · obtain ⟨hi, rfl⟩ := hv
    have hw : i < ws.length := by omega
    obtain ⟨b, hb, _, _, e3⟩ := paired_get pr (List.getElem?_eq_getElem hw)
    have hE := entry_at ee i
    rw [hb, Array.getElem?_eq_getElem hi] at hE
    have hE := Option.some.inj hE
    have : (ws[i]).2 = .int (ns.getD i 0) := by
      have := congrArg (fun l : List V => l[i]?) ens
      simp only [List.getElem?_map, List.getElem?_eq_getElem hw, List.getElem?_eq_getElem (show i < ns.length by omega)] at this
      rw [List.getD_eq_getElem?_getD, List.getElem?_eq_getElem (show i < ns.length by omega)]
      exact Option.some.inj this
    rw [this] at e3
    rw [hE]
    exact e3
  · have e : preSum (fun i => ns.getD i 0) es.size = ns.sum := by
      rw [preSum_list ns _ (by omega), List.take_of_length_le (by omega)]
    rw [e]
    refine ⟨.int ns.sum, G1, J2.kept (t' := tk) fun b o hb => kp b o ?_ (Heap.get?_push_of_some _ hb), ⟨_, rfl⟩, q⟩
    intro w
    have w' := List.mem_singleton.mp w
    rw [w'] at hb
    exact absurd (Heap.lt_size hb) (Nat.lt_irrefl _)
def dSumV (fo : DO) : DE := fun S R => fo S fun o S1 => view S1 (onDT fun l => onInts (fun ns => R (.int ns.sum) S1) (l.map (·.2))) o
theorem je_sumVals {X : Cx} {z : Z} {a : Expr} {p apos cpos pos : Pos} {fo : DO} (hc : X.calm = true) (hg : Gl X "sum") (hm : X.mg "sum" = none) (ha : JO X z a fo)
    (hbase : attributeBase a "values" X.env (eval a X.env) = eval a X.env := by rfl) (hline : (apos.endLine == cpos.line) = true := by rfl)
    (hs : starEach [.Call (.Attribute a "values" apos) [] [] cpos] X.env = (false, eval (.Call (.Attribute a "values" apos) [] [] cpos) X.env) :: starEach [] X.env := by rfl) :
    JE X z (.Call (.Name "sum" p) [.Call (.Attribute a "values" apos) [] [] cpos] [] pos) (dSumV fo) :=
  JE.of (pe_sumVals hc ha hg hm hbase hline hs) fun F σ H S R r hf => tO.use r hf fun v H1 F1 S1 a1 x1 r1 h1 q1 => by
    obtain ⟨d, rv, q0⟩ := h1.view r1 q1
    obtain ⟨l, rfl, q2⟩ := onDT.get q0
    obtain ⟨c, ws, rfl, h2, s1⟩ := rv
    obtain ⟨ns, ens, q3⟩ := onInts.get q2
    have sv := s1.vals
    rw [ens] at sv
    exact ⟨c, ws, ns, rfl, h2, sv.ints, F1, S1, _, x1, r1, rfl, q3⟩
end DL

namespace DL
open PySem L2 PySem.Spec PyProof.Rows
/-- the row's order -/
def ltI : List Int → List Int → Bool
  | _, [] => false
  | [], _ :: _ => true
  | x :: xs, y :: ys => if x = y then ltI xs ys else decide (x < y)
def leI : List Int → List Int → Bool
  | [], _ => true
  | _ :: _, [] => false
  | x :: xs, y :: ys => if x = y then leI xs ys else decide (x ≤ y)
theorem firstLt_map {e r : Nat → Bool} {fin : Bool} : ∀ {l : List Nat}, SeqAt.firstLt e r fin (l.map Nat.succ) = SeqAt.firstLt (fun j => e (j + 1)) (fun j => r (j + 1)) fin l
  | [] => rfl
  | j :: t => by
    show (if e (j + 1) = true then SeqAt.firstLt e r fin (t.map Nat.succ) else r (j + 1)) = _
    rw [firstLt_map]; rfl
theorem firstLt_ltI : ∀ ns ms : List Int, SeqAt.firstLt (fun j => decide (ns.getD j 0 = ms.getD j 0)) (fun j => decide (ns.getD j 0 < ms.getD j 0)) (decide (ns.length < ms.length)) (List.range (min ns.length ms.length)) = ltI ns ms
  | [], [] => rfl
  | [], _ :: _ => by simp [SeqAt.firstLt, ltI]
  | _ :: _, [] => by simp [SeqAt.firstLt, ltI]
  | x :: xs, y :: ys => by
    have ih := firstLt_ltI xs ys
    rw [show min (x :: xs).length (y :: ys).length = min xs.length ys.length + 1 by simp only [List.length_cons]; omega, List.range_succ_eq_map]
    show (if decide (x = y) = true then SeqAt.firstLt _ _ _ ((List.range _).map Nat.succ) else decide (x < y)) = if x = y then ltI xs ys else decide (x < y)
    rw [firstLt_map]
    by_cases h : x = y
    · rw [if_pos h, if_pos (decide_eq_true h), ← ih]
      simp [List.getD_cons_succ]
    · rw [if_neg h, if_neg (by simpa using h)]
theorem firstLt_leI : ∀ ns ms : List Int, SeqAt.firstLt (fun j => decide (ns.getD j 0 = ms.getD j 0)) (fun j => decide (ns.getD j 0 ≤ ms.getD j 0)) (decide (ns.length ≤ ms.length)) (List.range (min ns.length ms.length)) = leI ns ms
  | [], [] => rfl
  | [], _ :: _ => by simp [SeqAt.firstLt, leI]
  | _ :: _, [] => by simp [SeqAt.firstLt, leI]
  | x :: xs, y :: ys => by
    have ih := firstLt_leI xs ys
    rw [show min (x :: xs).length (y :: ys).length = min xs.length ys.length + 1 by simp only [List.length_cons]; omega, List.range_succ_eq_map]
    show (if decide (x = y) = true then SeqAt.firstLt _ _ _ ((List.range _).map Nat.succ) else decide (x ≤ y)) = if x = y then leI xs ys else decide (x ≤ y)
    rw [firstLt_map]
    by_cases h : x = y
    · rw [if_pos h, if_pos (decide_eq_true h), ← ih]
      simp [List.getD_cons_succ]
    · rw [if_neg h, if_neg (by simpa using h)]
theorem at_ints {its : List Value} {ns : List Int} (i : IntsAre its ns) (j : Nat) (h : j < its.toArray.size) : ∃ t, its.toArray[j] = .int (ns.getD j 0) t := PyProof.Rows.IntsAre.int_at i _ _ (by simp at h; simp [h])
theorem eqAt_ints {A : Around} {s : Shared} {its its2 : List Value} {ns ms : List Int} (i : IntsAre its ns) (i2 : IntsAre its2 ms) (j : Nat) (h1 : j < its.toArray.size) (h2 : j < its2.toArray.size) : SeqAt.EqAt A s its.toArray[j] its2.toArray[j] (decide (ns.getD j 0 = ms.getD j 0)) := by
  obtain ⟨t, et⟩ := at_ints i j h1
  obtain ⟨t', et'⟩ := at_ints i2 j h2
  rw [et, et']
  have z : (ns.getD j 0 == ms.getD j 0) = decide (ns.getD j 0 = ms.getD j 0) := by
    by_cases q : ns.getD j 0 = ms.getD j 0
    · rw [decide_eq_true q]; exact beq_iff_eq.mpr q
    · rw [decide_eq_false q]; exact beq_eq_false_iff_ne.mpr q
  rw [← z]
  exact SeqAt.EqAt.int_int _ _ _ _
def rCmpL (K : PySem.W.Frag) (g : List Int → List Int → Bool) : R2 := fun x y H Q => ∃ (a b : Addr) (ns ms : List Int), x = .ref a ∧ y = .ref b ∧ SqL K H a (ns.map V.int) ∧ SqL K H b (ms.map V.int) ∧ Q (.bl (g ns ms)) H
theorem op_ltL {X : Cx} (hu : X.A.units < cLine) : OpR X (compareOp .Lt) (rCmpL X.K ltI) := by
  intro pins s σ H x y v u Q I rx ry h
  obtain ⟨a, b, ns, ms, rfl, rfl, ha, hb, q⟩ := h
  cases rx
  cases ry
  obtain ⟨its, r1, p1, _⟩ := I.list ha
  obtain ⟨its2, r2, p2, _⟩ := I.list hb
  have i1 : IntsAre its ns := Vals.ints r1
  have i2 : IntsAre its2 ms := Vals.ints r2
  have e1 : its.toArray.size = ns.length := by rw [List.size_toArray]; exact i1.length
  have e2 : its2.toArray.size = ms.length := by rw [List.size_toArray]; exact i2.length
  have R := SeqAt.RcLt.lists (A := X.A) (s := s) (e := fun j => decide (ns.getD j 0 = ms.getD j 0)) (r := fun j => decide (ns.getD j 0 < ms.getD j 0)) p1.isList p2.isList hu (fun j h1 h2 => eqAt_ints i1 i2 j h1 h2) (fun j h1 h2 _ => by
    obtain ⟨t, et⟩ := at_ints i1 j h1
    obtain ⟨t', et'⟩ := at_ints i2 j h2
    rw [et, et']
    exact fun _ _ _ _ h => PyProof.Rows.lt_int h)
  rw [e1, e2, firstLt_ltI] at R
  have z : wpAny (model X.prog X.w) X.A (compareOp .Lt (.ref a) (.ref b)) (EP X pins σ Q) X.xe s := R X.prog X.w X.xe (EP X pins σ Q) ⟨.bl _, H, I, rfl, q⟩
  exact z
theorem op_leL {X : Cx} (hu : X.A.units < cLine) : OpR X (compareOp .LtE) (rCmpL X.K leI) := by
  intro pins s σ H x y v u Q I rx ry h
  obtain ⟨a, b, ns, ms, rfl, rfl, ha, hb, q⟩ := h
  cases rx
  cases ry
  obtain ⟨its, r1, p1, _⟩ := I.list ha
  obtain ⟨its2, r2, p2, _⟩ := I.list hb
  have i1 : IntsAre its ns := Vals.ints r1
  have i2 : IntsAre its2 ms := Vals.ints r2
  have e1 : its.toArray.size = ns.length := by rw [List.size_toArray]; exact i1.length
  have e2 : its2.toArray.size = ms.length := by rw [List.size_toArray]; exact i2.length
  have R := SeqAt.RcOp.lists_le (A := X.A) (s := s) (e := fun j => decide (ns.getD j 0 = ms.getD j 0)) (r := fun j => decide (ns.getD j 0 ≤ ms.getD j 0)) p1.isList p2.isList hu (fun j h1 h2 => eqAt_ints i1 i2 j h1 h2) (fun j h1 h2 _ => by
    obtain ⟨t, et⟩ := at_ints i1 j h1
    obtain ⟨t', et'⟩ := at_ints i2 j h2
    rw [et, et']
    exact fun _ _ _ _ h => PyProof.Rows.le_int h)
  rw [e1, e2, firstLt_leI] at R
  have z : wpAny (model X.prog X.w) X.A (compareOp .LtE (.ref a) (.ref b)) (EP X pins σ Q) X.xe s := R X.prog X.w X.xe (EP X pins σ Q) ⟨.bl _, H, I, rfl, q⟩
  exact z
def gCmpL (g : List Int → List Int → Bool) : G2 := fun d e k => onL (fun l => onInts (fun ns => onL (fun m => onInts (fun ms => k (.bl (g ns ms))) m) e) l) d
def gLtL : G2 := gCmpL ltI
def gLeL : G2 := gCmpL leI
theorem bd_cmpL {X : Cx} {z : Z} {op : Value → Value → Sem Value} {g : List Int → List Int → Bool} (hz : z.n.K = X.K) (ho : OpR X op (rCmpL X.K g)) : BinD X z op (gCmpL g) :=
  ⟨⟨_, ho, fun x y H Q Q' k ⟨a, b, ns, ms, h1, h2, h3, h4, q⟩ => ⟨a, b, ns, ms, h1, h2, h3, h4, k _ _ q⟩, ⟨fun {F σ H S x y d e k} r r1 r2 q => by
    obtain ⟨l, rfl, q1⟩ := onL.get (k := fun l => onInts (fun ns => onL (fun m => onInts (fun ms => k (.bl (g ns ms))) m) e) l) q
    obtain ⟨ns, rfl, q2⟩ := onInts.get (k := fun ns => onL (fun m => onInts (fun ms => k (.bl (g ns ms))) m) e) q1
    obtain ⟨m, rfl, q3⟩ := onL.get (k := fun m => onInts (fun ms => k (.bl (g ns ms))) m) q2
    obtain ⟨ms, rfl, q4⟩ := onInts.get (k := fun ms => k (.bl (g ns ms))) q3
    obtain ⟨a, xs, rfl, h1, s1⟩ := Rv.list r.ext (.inl rfl) r1
    obtain ⟨b, ys, rfl, h2, s2⟩ := Rv.list r.ext (.inl rfl) r2
    rw [s1.ints] at h1
    rw [s2.ints] at h2
    exact ⟨a, b, ns, ms, rfl, rfl, hz ▸ h1, hz ▸ h2, F, _, Ext.refl, r, rfl, q4⟩⟩⟩⟩
theorem bd_ltL {X : Cx} {z : Z} (hz : z.n.K = X.K) (hu : X.A.units + 64 < cLine) : BinD X z (compareOp .Lt) gLtL := bd_cmpL hz (op_ltL (by omega))
theorem bd_leL {X : Cx} {z : Z} (hz : z.n.K = X.K) (hu : X.A.units + 64 < cLine) : BinD X z (compareOp .LtE) gLeL := bd_cmpL hz (op_leL (by omega))
end DL

namespace DL
open PySem L2 PySem.Spec PyProof.Rows
def flI : D → Bool
  | .int _ => true
  | .non => true
  | _ => false
def flA : List D → Bool
  | [] => true
  | y :: r => flI y && flA r
noncomputable def inTD (d : D) : List D → Bool
  | [] => false
  | y :: r => deq y d || inTD d r
theorem flI_rp {n : Nm} {F : Hp} : ∀ {d : D} {v : V}, flI d = true → Rp n F d v → (d = .non ∧ v = .non) ∨ ∃ i, d = .int i ∧ v = .int i
  | .non, v, _, r => .inl ⟨rfl, r⟩
  | .int i, v, _, r => .inr ⟨i, rfl, r⟩
  | .bl _, _, h, _ => by cases h
  | .str _, _, h, _ => by cases h
  | .tup _, _, h, _ => by cases h
  | .lst _, _, h, _ => by cases h
  | .dK _, _, h, _ => by cases h
  | .dT _, _, h, _ => by cases h
  | .ins _ _, _, h, _ => by cases h
  | .scr _, _, h, _ => by cases h
  | .stt, _, h, _ => by cases h
theorem flI_flat {n : Nm} {F : Hp} {d : D} {v : V} (h : flI d = true) (r : Rp n F d v) : flatV v = true := by
  rcases flI_rp h r with ⟨_, rfl⟩ | ⟨i, _, rfl⟩ <;> rfl
theorem flI_eq {n : Nm} {F : Hp} {d e : D} {v w : V} (h : flI d = true) (h' : flI e = true) (r : Rp n F d v) (r' : Rp n F e w) : eqV v w = deq d e := by
  rcases flI_rp h r with ⟨rfl, rfl⟩ | ⟨i, rfl, rfl⟩ <;> rcases flI_rp h' r' with ⟨rfl, rfl⟩ | ⟨j, rfl, rfl⟩
  · exact deq_self.symm
  · exact deq_non_int.symm
  · exact deq_int_non.symm
  · rw [deq_int]
    show (i == j) = _
    by_cases q : i = j
    · rw [decide_eq_true q]; exact beq_iff_eq.mpr q
    · rw [decide_eq_false q]; exact beq_eq_false_iff_ne.mpr q
theorem flA_in {n : Nm} {F : Hp} {d : D} {v : V} (h : flI d = true) (r : Rp n F d v) : ∀ {l : List D} {xs : List V}, flA l = true → Rps n F l xs → xs.all flatV = true ∧ inV v xs = inTD d l
  | [], xs, _, s => by cases s; exact ⟨rfl, rfl⟩
  | y :: l, xs, hl, s => by
    obtain ⟨w, rs, rfl, s1, s2⟩ := s
    rw [flA, Bool.and_eq_true] at hl
    obtain ⟨i1, i2⟩ := flA_in h r hl.2 s2
    refine ⟨by rw [List.all_cons, flI_flat hl.1 s1, i1]; rfl, ?_⟩
    unfold inV at i2 ⊢
    rw [List.any_cons, i2, flI_eq hl.1 h s1 r]; rfl
theorem flI_rv {n : Nm} {F H : Hp} : ∀ {d : D} {v : V}, flI d = true → Rv n F H d v → Rp n F d v
  | .non, v, _, r => r
  | .int i, v, _, r => r
  | .bl _, _, h, _ => by cases h
  | .str _, _, h, _ => by cases h
  | .tup _, _, h, _ => by cases h
  | .lst _, _, h, _ => by cases h
  | .dK _, _, h, _ => by cases h
  | .dT _, _, h, _ => by cases h
  | .ins _ _, _, h, _ => by cases h
  | .scr _, _, h, _ => by cases h
  | .stt, _, h, _ => by cases h
noncomputable def gInT : G2 := fun d e k => match e with
  | .tup l => flI d = true ∧ flA l = true ∧ k (.bl (inTD d l))
  | _ => False
noncomputable def gNotInT : G2 := fun d e k => match e with
  | .tup l => flI d = true ∧ flA l = true ∧ k (.bl (!inTD d l))
  | _ => False
section
variable {X : Cx} {z : Z}
theorem bd_inT (hz : z.n.K = X.K) : BinD X z (compareOp .In) gInT :=
  ⟨⟨_, op_in_seq, fun x y H Q Q' k ⟨p, xs, h1, h2, h3, h4, q⟩ => ⟨p, xs, h1, h2, h3, h4, k _ _ q⟩, ⟨fun {F σ H S x y d e k} r r1 r2 q => by
    cases e with
    | tup l =>
      obtain ⟨c1, c2, q⟩ := q
      obtain ⟨a, xs, rfl, h2, s2⟩ := r2
      obtain ⟨i1, i2⟩ := flA_in c1 (flI_rv c1 r1) c2 s2
      exact ⟨a, xs, rfl, .inr (SqT.of (r.ext.at h2 rfl)), flI_flat c1 (flI_rv c1 r1), i1, F, _, Ext.refl, r, by rw [i2]; rfl, q⟩
    | _ => exact q.elim⟩⟩⟩
theorem bd_notInT (hz : z.n.K = X.K) : BinD X z (compareOp .NotIn) gNotInT :=
  ⟨⟨_, op_notIn_seq, fun x y H Q Q' k ⟨p, xs, h1, h2, h3, h4, q⟩ => ⟨p, xs, h1, h2, h3, h4, k _ _ q⟩, ⟨fun {F σ H S x y d e k} r r1 r2 q => by
    cases e with
    | tup l =>
      obtain ⟨c1, c2, q⟩ := q
      obtain ⟨a, xs, rfl, h2, s2⟩ := r2
      obtain ⟨i1, i2⟩ := flA_in c1 (flI_rv c1 r1) c2 s2
      exact ⟨a, xs, rfl, .inr (SqT.of (r.ext.at h2 rfl)), flI_flat c1 (flI_rv c1 r1), i1, F, _, Ext.refl, r, by rw [i2]; rfl, q⟩
    | _ => exact q.elim⟩⟩⟩
end
end DL

namespace DL
open PySem L2 PySem.Spec PyProof.Rows PySem.SeqAt PySem.W
section
variable {prog : Program} {w : World} {A : Around} {E : Value → Shared → Prop} {s : Shared}
/-- a dict's object, with its entries -/
def RawD (s : Shared) (a : Addr) (es : Array DictEntry) : Prop := ∃ o ep, s.heap.get? a = some o ∧ o.ExactDict ∧ o.data = .dict es ep
theorem RawD.none {a : Addr} (h : RawD s a #[]) : s.heap.DictOf (intKind prog w) a [] := by
  obtain ⟨o, ep, h1, h2, h3⟩ := h
  exact ⟨o, #[], ep, h1, h2, h3, fun e he => by simp at he, .nil, List.nodup_nil⟩
theorem RawD.typeIs {a : Addr} {es : Array DictEntry} (h : RawD s a es) : s.TypeIs (.ref a) "dict" := by
  obtain ⟨o, ep, h1, h2, h3⟩ := h
  exact ⟨o, h1, h2.1⟩
theorem samePairs_empty {nm : String} {a b : Addr} {es : Array DictEntry} {Q : Bool → Shared → Prop} (ha : (a == sysModules) = false) (hb : (b == sysModules) = false) (da : RawD s a es) (db : RawD s b #[]) (h : Q (es.size == 0) s) :
    wpAny (model prog w) A (Builtin.Dict.samePairs nm a b) Q E s := by
  by_cases hz : es.size = 0
  · have e : es = #[] := Array.eq_empty_of_size_eq_zero hz
    subst e
    exact keq_samePairs (knd := intKind prog w) (r := true) ha hb da.none db.none (fun _ => .nil) (by simpa using h)
  · obtain ⟨oa, ep, hoa, _, hda⟩ := da
    obtain ⟨ob, ep', hob, _, hdb⟩ := db
    unfold Builtin.Dict.samePairs Builtin.Dict.showsAll
    rw [if_neg (show ¬ (a == sysModules) = true by rw [ha]; exact Bool.false_ne_true), if_neg (show ¬ (b == sysModules) = true by rw [hb]; exact Bool.false_ne_true)]
    refine wpAny_bind (wpAny_pure (wpAny_bind (wpAny_pure ?_)))
    refine wpAny_bind (wpAny_dictEntries hoa hda ?_)
    dsimp only
    refine wpAny_bind (wpAny_dictEntries hob hdb ?_)
    rw [if_pos (by simpa using hz)]
    have hbf : (es.size == 0) = false := by simpa using hz
    rw [hbf] at h
    exact wpAny_bind (wpAny_rule (wpAny_pure h))
theorem ne_empty {a b : Addr} {es : Array DictEntry} {Q : Value → Shared → Prop} (ha : (a == sysModules) = false) (hb : (b == sysModules) = false) (da : RawD s a es) (db : RawD s b #[]) (hu : A.units < cLine) (h : Q (.bool (!(es.size == 0))) s) :
    wpAny (model prog w) A (compareOp .NotEq (.ref a) (.ref b)) Q E s := by
  refine wpAny_richCompare_same_room (op := .NotEq) da.typeIs db.typeIs PySem.F.slot_dict_ne (wpAny_call_entry PySem.F.slot_dict_ne da.typeIs PySem.F.entry_dict_ne ?_ (PySem.F.args_dict_ne_2 _ _)) hu
  show wpAny _ _ (Builtin.Dict.dictSlotArgs "__ne__" ⟨[.ref a, .ref b], []⟩ >>= _) _ _ s
  refine wpAny_bind ?_
  unfold Builtin.Dict.dictSlotArgs
  refine wpAny_bind (wpAny_notOrdered_dict da.typeIs ?_)
  show wpAny _ _ (pure (Value.ref a, Value.ref b)) _ _ s
  refine wpAny_pure ?_
  refine wpAny_bind (wpAny_isInstance (T := "dict") db.typeIs PySem.F.sub_dict_dict ?_)
  simp only [Bool.not_true, Bool.false_eq_true, if_false]
  refine wpAny_bind (wpAny_pure (wpAny_bind (wpAny_pure ?_)))
  refine wpAny_bind (samePairs_empty ha hb da db ?_)
  refine wpAny_pure ⟨_, rfl, ?_, ?_⟩
  · exact fun x => nomatch x
  · simpa using h
end
def rNeE : R2 := fun x y H Q => ∃ a b ws, x = .ref a ∧ y = .ref b ∧ Rd H a (.dT ws) ∧ Rd H b (.dK []) ∧ Q (.bl (!ws.isEmpty)) H
theorem op_neE {X : Cx} (hu : X.A.units < cLine) : OpR X (compareOp .NotEq) rNeE := by
  intro pins s σ H x y v u Q I rx ry h
  obtain ⟨a, b, ws, rfl, rfl, ea, eb, q⟩ := h
  obtain rfl : v = Value.ref a := rx
  obtain rfl : u = Value.ref b := ry
  obtain ⟨_, ya, xs, ra, oa, es, ep, h1, h2, h3, h4, _⟩ := (show ObjOk X.prog X.w H s.heap a (.dT ws) from rd_ok I ea)
  obtain ⟨_, yb, vb, rb, ob, es', ep', k1, k2, k3, k4, k5, _⟩ := (show ObjOk X.prog X.w H s.heap b (.dK []) from rd_ok I eb)
  have e0 : es' = #[] := by
    have hv : vb = [] := by cases rb; rfl
    subst hv
    have := k5.length
    exact Array.eq_empty_of_size_eq_zero (by simpa using this)
  subst e0
  have el : es.size = ws.length := by rw [← Array.length_toList, h4, List.length_map, ← ra.length]
  exact ne_empty (es := es) ya yb ⟨oa, ep, h1, h2, h3⟩ ⟨ob, ep', k1, k2, k3⟩ hu (fin_bl I q (by rw [el]; cases ws <;> simp))
/-- a dict by tuples != {} -/
def gNeE : G2 := fun d e k => match d, e with
  | .dT l, .dK [] => k (.bl (!l.isEmpty))
  | _, _ => False
theorem bd_neE {X : Cx} {z : Z} (hz : z.n.K = X.K) (hu : X.A.units + 64 < cLine) : BinD X z (compareOp .NotEq) gNeE :=
  ⟨⟨_, op_neE (by omega), fun x y H Q Q' k h => by
    obtain ⟨a, b, ws, h1, h2, h3, h4, q⟩ := h
    exact ⟨a, b, ws, h1, h2, h3, h4, k _ _ q⟩, ⟨fun {F σ H S x y d e k} r r1 r2 q => by
    cases d with
    | dT l =>
      cases e with
      | dK m =>
        cases m with
        | nil =>
          obtain ⟨a, ws, rfl, ha, s1⟩ := r1
          obtain ⟨b, ls, rfl, hb, s2⟩ := r2
          obtain rfl : ls = [] := s2
          refine ⟨a, b, ws, rfl, rfl, ha, hb, F, .bl (!l.isEmpty), Ext.refl, r, ?_, q⟩
          have : ws.isEmpty = l.isEmpty := by
            cases l with
            | nil => rw [show ws = [] from s1]; rfl
            | cons p l =>
              obtain ⟨k, d⟩ := p
              obtain ⟨v, r, e, _⟩ := s1
              rw [e]; rfl
          rw [this]
        | cons p m => exact q.elim
      | _ => exact q.elim
    | _ => exact q.elim⟩⟩⟩
end DL

namespace DL
open PySem L2 PySem.Spec PyProof.Rows
def dOwnClear (i : Nat) : DS := fun E S => onOwnL (fun _ => E.nx (setS S i (.own (.lst [])))) (getS S i)
theorem js_ownClear {X : Cx} {z : Z} {o : Expr} {apos cpos pos : Pos} {i : Nat} (ho : PE X o (tVar i))
    (hbase : attributeBase o "clear" X.env (eval o X.env) = eval o X.env := by rfl) (hline : (apos.endLine == cpos.line) = true := by rfl) :
    JS X z (.Expr (.Call (.Attribute o "clear" apos) [] [] cpos) pos) (dOwnClear i) :=
  JS.of (ps_expr (pe_bm0 PySem.F.plainAttrs_list PySem.F.slot_list_clear PySem.F.type_list_clear mt_clear ho hbase hline)) fun F σ H S E rp hf => by
    obtain ⟨l0, g0, q1⟩ := onOwnL.get hf
    have g1 := getS_some g0 (by intro x; cases x)
    obtain ⟨a, e1, f1, n1, c1⟩ := rp.sl i _ g1
    obtain ⟨xs, h0, s0⟩ := c1
    exact ⟨.ref a, e1, .inl ⟨rfl, xs, SqL.of h0⟩, a, xs, rfl, rfl, h0, F, _, Ext.refl, rp.write (c' := .lst []) g1 e1 ⟨_, upd_same, rfl⟩, q1⟩
end DL

namespace DL
open PySem L2 PySem.Spec PyProof.Rows
/-- slot i's list stands fast, as a caller's would -/
def upPr (z : Z) (i : Nat) (a : Addr) : Nat → Option Addr := fun j => if j = i then some a else z.pr j
noncomputable abbrev zO (z : Z) (F : Hp) (σ : L2.St) (H : Hp) (S : SS) (i : Nat) (a : Addr) : Z := ⟨z.n, F, blkH ⟨z.n, z.F0, z.H0, upPr z i a⟩ σ H S, upPr z i a⟩
section
variable {z : Z} {F F' : Hp} {σ σ' : L2.St} {H H' : Hp} {S S' : SS} {i : Nat} {a : Addr} {l : List D}
theorem upPr_i : upPr z i a i = some a := if_pos rfl
theorem upPr_ne {j : Nat} (h : j ≠ i) : upPr z i a j = z.pr j := if_neg h
theorem up_of (r : Rep z F σ H S) (ha : σ[i]? = some (some (.ref a))) {j : Nat} {c : Addr} (h : z.pr j = some c) : upPr z i a j = some c := by
  by_cases e : j = i
  · subst e
    have := r.pin j c h
    rw [ha] at this
    cases this
    exact upPr_i
  · rw [upPr_ne e]; exact h
theorem Rep.pinned (r : Rep z F σ H S) (hs : S[i]? = some (.own (.lst l))) (ha : σ[i]? = some (some (.ref a))) : Rep (zO z F σ H S i a) F σ H S where
  ext := r.ext
  keep := fun b o h _ => blkH_some h
  new := fun b o h => .inl ⟨o, h⟩
  len := r.len
  sl := fun j s h => by
    have q := r.sl j s h
    cases s with
    | free => trivial
    | val d => exact q
    | own c =>
      obtain ⟨b, e1, f1, n1, c1⟩ := q
      refine ⟨b, e1, f1, ?_, c1⟩
      by_cases hj : j = i
      · subst hj
        rw [ha] at e1
        cases e1
        exact .inr upPr_i
      · rcases all_or (p := fun k => upPr z i a k = some b) with hp | ⟨k, hk⟩
        · refine .inl ?_
          show blkH _ σ H S b = none
          unfold blkH
          rw [if_pos ⟨j, c, h, e1, hp⟩]
        · by_cases hki : k = i
          · subst hki
            rw [upPr_i] at hk
            cases hk
            exact absurd (r.inj j k c _ a h hs e1 ha) hj
          · rw [upPr_ne hki] at hk
            rcases n1 with n1 | n1
            · obtain ⟨⟨o, ho⟩, _⟩ := r.pi0 k b hk
              rw [n1] at ho; cases ho
            · exact .inr (by show upPr z i a j = some b; rw [upPr_ne hj]; exact n1)
    | slf c l' =>
      obtain ⟨b, dx, fs, e1, e2, q⟩ := q
      exact ⟨b, dx, fs, e1, up_of r ha e2, q⟩
  pin := fun j b h => by
    by_cases hj : j = i
    · subst hj
      have h : upPr z j a j = some b := h
      rw [upPr_i] at h
      cases h
      exact ha
    · have h : upPr z i a j = some b := h
      rw [upPr_ne hj] at h
      exact r.pin j b h
  pi0 := fun j b h => by
    have hb : blkH ⟨z.n, z.F0, z.H0, upPr z i a⟩ σ H S b = H b := blkH_pr (z := ⟨z.n, z.F0, z.H0, upPr z i a⟩) h
    have : ∃ o, H b = some o ∧ ntup o = true := by
      by_cases hj : j = i
      · subst hj
        have h : upPr z j a j = some b := h
        rw [upPr_i] at h
        cases h
        obtain ⟨b', e1, _, _, c1⟩ := r.sl j _ hs
        rw [ha] at e1
        cases e1
        obtain ⟨o, h1, _, h2⟩ := c1.ex
        exact ⟨o, h1, h2⟩
      · have h : upPr z i a j = some b := h
        rw [upPr_ne hj] at h
        exact (r.pi0 j b h).2
    obtain ⟨o, h1, h2⟩ := this
    exact ⟨⟨o, hb.trans h1⟩, o, h1, h2⟩
  pf := fun j b h => by
    cases e : F b with
    | none => exact .inl rfl
    | some o => exact .inr ⟨o, e⟩
  inj := r.inj
theorem Rep.unpin (r : Rep z F σ H S) (hs : S[i]? = some (.own (.lst l))) (ha : σ[i]? = some (some (.ref a))) (x : Ext z.n F F') (b : Rep (zO z F σ H S i a) F' σ' H' S') : Rep z F' σ' H' S' := by
  have own0 : z.H0 a = none ∨ z.pr i = some a := by
    obtain ⟨b', e1, _, n1, _⟩ := r.sl i _ hs
    rw [ha] at e1
    cases e1
    exact n1
  have Fa : F a = none := by
    obtain ⟨b', e1, f1, _, _⟩ := r.sl i _ hs
    rw [ha] at e1
    cases e1
    exact f1
  have old : ∀ c, z.H0 c ≠ none → (∀ k, z.pr k ≠ some c) → blkH ⟨z.n, z.F0, z.H0, upPr z i a⟩ σ H S c = H c := fun c h hp => by
    refine blkH_at fun j k h1 h2 => ?_
    obtain ⟨a', e1, _, n1, _⟩ := r.sl j _ h1
    rw [h2] at e1; cases e1
    rcases n1 with n1 | n1
    · exact h n1
    · exact hp j n1
  have toH : ∀ c, blkH ⟨z.n, z.F0, z.H0, upPr z i a⟩ σ H S c = none → (∀ k, z.pr k ≠ some c) → z.H0 c = none := fun c h hp => by
    cases e : z.H0 c with
    | none => rfl
    | some o =>
      have q := old c (by rw [e]; simp) hp
      rw [h] at q
      have := r.keep c o e hp
      rw [← q] at this; cases this
  have nup : ∀ c o, z.H0 c = some o → (∀ k, z.pr k ≠ some c) → ∀ k, upPr z i a k ≠ some c := fun c o h hp k hk => by
    by_cases e : k = i
    · subst e
      rw [upPr_i] at hk
      cases hk
      rcases own0 with q | q
      · rw [h] at q; cases q
      · exact hp k q
    · rw [upPr_ne e] at hk
      exact hp k hk
  refine ⟨b.ext, fun c o h p => ?_, fun c o h => ?_, b.len, fun j s h => ?_, fun j c h => b.pin j c (up_of r ha h), fun j c h => ⟨(r.pi0 j c h).1, (b.pi0 j c (up_of r ha h)).2⟩, fun j c h => ?_, b.inj⟩
  · have h1 := r.keep c o h p
    refine b.keep c o ?_ (nup c o h p)
    show blkH ⟨z.n, z.F0, z.H0, upPr z i a⟩ σ H S c = some o
    rw [old c (by rw [h]; simp) p]; exact h1
  · rcases b.new c o h with ⟨o0, q⟩ | q | ⟨xs, rfl, q⟩
    · rcases r.new c o0 q with w | w | ⟨xs, rfl, w⟩
      · exact .inl w
      · exact .inr (.inl w)
      · have := x.at q rfl
        rw [h] at this; cases this
        exact .inr (.inr ⟨xs, rfl, w⟩)
    · rcases all_or (p := fun k => z.pr k = some c) with hp | ⟨k, hk⟩
      · exact .inr (.inl (toH c q hp))
      · exfalso
        obtain ⟨⟨o1, h1⟩, _⟩ := b.pi0 k c (up_of r ha hk)
        rw [q] at h1; cases h1
    · cases e0 : z.H0 c with
      | none => exact .inr (.inl e0)
      | some o1 =>
        rcases all_or (p := fun k => z.pr k = some c) with hp | ⟨k, hk⟩
        · have e1 := old c (by rw [e0]; simp) hp
          have e2 := r.keep c o1 e0 hp
          rw [← e1, show blkH ⟨z.n, z.F0, z.H0, upPr z i a⟩ σ H S c = some (.tup xs) from q] at e2
          cases e2
          exact .inr (.inr ⟨xs, rfl, e0⟩)
        · exfalso
          obtain ⟨_, o2, h2, h3⟩ := r.pi0 k c hk
          rw [← blkH_pr (z := ⟨z.n, z.F0, z.H0, upPr z i a⟩) (σ := σ) (H := H) (S := S) (up_of r ha hk), show blkH ⟨z.n, z.F0, z.H0, upPr z i a⟩ σ H S c = some (.tup xs) from q] at h2
          cases h2; cases h3
  · have q := b.sl j s h
    cases s with
    | free => trivial
    | val d => exact q
    | own k =>
      obtain ⟨c, e1, f1, n1, c1⟩ := q
      refine ⟨c, e1, f1, ?_, c1⟩
      rcases n1 with n1 | n1
      · rcases all_or (p := fun k => z.pr k = some c) with hp | ⟨k, hk⟩
        · exact .inl (toH c n1 hp)
        · obtain ⟨⟨o1, h1⟩, _⟩ := b.pi0 k c (up_of r ha hk)
          rw [n1] at h1; cases h1
      · by_cases hj : j = i
        · subst hj
          have n1 : upPr z j a j = some c := n1
          rw [upPr_i] at n1
          cases n1
          exact own0
        · have n1 : upPr z i a j = some c := n1
          rw [upPr_ne hj] at n1
          exact .inr n1
    | slf k l' =>
      obtain ⟨c, dx, fs, e1, e2, e3, ⟨fs0, e4⟩, q⟩ := q
      refine ⟨c, dx, fs, e1, ?_, e3, ⟨fs0, e4⟩, q⟩
      by_cases hj : j = i
      · subst hj
        have e2 : upPr z j a j = some c := e2
        rw [upPr_i] at e2
        cases e2
        rcases b.pf j a (show upPr z j a j = some a from upPr_i) with w | ⟨o, w⟩
        · rw [e4] at w; cases w
        · rw [show F a = some o from w] at Fa; cases Fa
      · have e2 : upPr z i a j = some c := e2
        rw [upPr_ne hj] at e2
        exact e2
  · rcases b.pf j c (up_of r ha h) with q | ⟨o, q⟩
    · exact .inl q
    · rcases r.pf j c h with q' | q'
      · rw [show F c = some o from q] at q'; cases q'
      · exact .inr q'
end
/-- the turns of a for over slot i's own list -/
structure ForOwn (i : Nat) (g : DG) (b : DS) (l : List D) (E : DEnds) (S : SS) : Prop where
  ex : ∃ I : List D → SS → Prop, I l S ∧ (∀ r S1, I r S1 → getS S1 i = .own (.lst l)) ∧ (∀ S1, I [] S1 → E.nx S1) ∧ ∀ d r S0, I (d :: r) S0 → g d S0 fun S1 => b { nx := I r, rt := fun _ _ => False, bk := E.nx, ct := I r } S1
theorem ForOwn.inv {i : Nat} {g : DG} {b : DS} {l : List D} {E : DEnds} {S : SS} (I : List D → SS → Prop) (h0 : I l S) (ho : ∀ r S1, I r S1 → getS S1 i = .own (.lst l)) (h1 : ∀ S1, I [] S1 → E.nx S1) (h2 : ∀ d r S0, I (d :: r) S0 → g d S0 fun S1 => b { nx := I r, rt := fun _ _ => False, bk := E.nx, ct := I r } S1) : ForOwn i g b l E S := ⟨⟨I, h0, ho, h1, h2⟩⟩
def dForOwn (i : Nat) (g : DG) (b : DS) : DS := fun E S => onOwnL (fun l => ForOwn i g b l E S) (getS S i)
theorem js_forOwn {X : Cx} {z : Z} {tg it : Expr} {body : List Stmt} {pos : Pos} {i : Nat} {g : DG} {b : DS} (hz : z.n.K = X.K) (hp : PassesOwn (model X.prog X.w) X.A X.env X.xe) (hc : X.calm = true) (ho : PE X it (tVar i))
    (hg : ∀ F σ H S a, JG X (zO z F σ H S i a) tg g) (hb : ∀ F σ H S a, JB X (zO z F σ H S i a) body b)
    (hs : ∀ x, foldedSetIterable it X.env x = pure x := by intro _; rfl) : JS X z (.For tg it body [] pos) (dForOwn i g b) := by
  have gx : PG X tg (fun v σ' H' Q => ∃ (F : Hp) (σ : L2.St) (H : Hp) (S : SS) (a : Addr), tG (zO z F σ H S i a) g v σ' H' Q) := ⟨fun pins s σ' H' v u Q I rv ⟨F, σ, H, S, a, h⟩ => (hg F σ H S a).run pins s σ' H' v u Q I rv h⟩
  have bx : PSs X body (fun D σ' H' => ∃ (F : Hp) (σ : L2.St) (H : Hp) (S : SS) (a : Addr), tS (zO z F σ H S i a) b D σ' H') := ⟨fun pins s σ' H' D I ⟨F, σ, H, S, a, h⟩ => (hb F σ H S a).run pins s σ' H' D I h⟩
  refine JS.of (ps_for hp hc (pi_list ho) gx bx hs) fun F σ H S E r hf => ?_
  obtain ⟨l, g0, I, q, qo, qn, qs⟩ : ∃ l, getS S i = .own (.lst l) ∧ ∃ I : List D → SS → Prop, I l S ∧ (∀ r S1, I r S1 → getS S1 i = .own (.lst l)) ∧ (∀ S1, I [] S1 → E.nx S1) ∧ ∀ d r S0, I (d :: r) S0 → g d S0 fun S1 => b { nx := I r, rt := fun _ _ => False, bk := E.nx, ct := I r } S1 := by
    obtain ⟨l, e, w⟩ := onOwnL.get hf
    exact ⟨l, e, w.ex⟩
  have g1 := getS_some g0 (by intro x; cases x)
  obtain ⟨a, e1, f1, n1, xs, h0, s0⟩ := r.sl i _ g1
  refine ⟨.ref a, e1, a, rfl, ⟨xs, SqL.of h0⟩, ?_⟩
  refine ⟨fun k m σ1 H1 => m = l.length - k ∧ k ≤ l.length ∧ ∃ F1 S1, Ext z.n F F1 ∧ Rep (zO z F σ H S i a) F1 σ1 H1 S1 ∧ I (l.drop k) S1, ⟨l.length, by omega, by omega, F, S, Ext.refl, r.pinned g1 e1, by simpa using q⟩, ?_⟩
  rintro k m σ1 H1 ⟨rfl, hk, F1, S1, x1, r1, q1⟩
  have o1 := getS_some (qo _ _ q1) (by intro x; cases x)
  obtain ⟨a', e2, f2, n2, xs1, h1, s1⟩ := r1.sl i _ o1
  have p1 := r1.pin i a (show upPr z i a i = some a from upPr_i)
  rw [e2] at p1
  cases p1
  by_cases hl : k = l.length
  · refine .inl ⟨⟨xs1, SqL.of h1, by rw [s1.length]; omega⟩, ?_⟩
    rw [hl, List.drop_length] at q1
    exact ⟨F1, S1, x1, r.unpin g1 e1 x1 r1, qn _ q1⟩
  · have hk' : k < l.length := by omega
    have hx' : k < xs1.length := by rw [s1.length]; exact hk'
    refine .inr ⟨⟨xs1, xs1[k], SqL.of h1, List.getElem?_eq_getElem hx'⟩, fun σ2 H2 => ∃ F2 S2, Ext z.n F F2 ∧ Rep (zO z F σ H S i a) F2 σ2 H2 S2 ∧ I (l.drop (k + 1)) S2, ?_, ?_⟩
    · rintro σ2 H2 ⟨F2, S2, x2, r2, q2⟩
      exact ⟨l.length - (k + 1), by omega, rfl, by omega, F2, S2, x2, r2, q2⟩
    · rintro v H2 ⟨rfl, hy⟩
      have hx := hy xs1 (SqL.of h1)
      obtain ⟨d, ed, hd⟩ := s1.getV hx
      rw [drop_cons ed] at q1
      refine ⟨F, σ, H, S, a, tG.use (z := zO z F σ H S i a) r1 hd (qs _ _ _ q1) fun σ3 H3 F3 S3 x4 r3 q3 => ⟨F, σ, H, S, a, F3, S3, _, r3, q3, ?_⟩⟩
      have x5 := x1.trans x4
      exact ⟨fun σ4 H4 ⟨F4, S4, x6, r4, q4⟩ => ⟨F4, S4, x5.trans x6, r4, q4⟩, fun v H4 ⟨F4, σ4, S4, r, x6, r4, k4, q4⟩ => q4.elim, fun σ4 H4 ⟨F4, S4, x6, r4, q4⟩ => ⟨F4, S4, x5.trans x6, r.unpin g1 e1 (x5.trans x6) r4, q4⟩, fun σ4 H4 ⟨F4, S4, x6, r4, q4⟩ => ⟨F4, S4, x5.trans x6, r4, q4⟩⟩
/-- the turns of a comprehension over slot i's own list -/
structure LcOwn (i : Nat) (g : DG) (t : DT) (f : DE) (vs : List Nat) (l : List D) (S : SS) (R : List D → SS → Prop) : Prop where
  ex : ∃ I : List D → List D → SS → Prop, I [] l S ∧ (∀ acc r S1, I acc r S1 → getS S1 i = .own (.lst l)) ∧ (∀ acc S1, I acc [] S1 → R acc S1) ∧
  ∀ acc d r S0, I acc (d :: r) S0 → g d (wipeS S0 vs) fun S1 => t S1 fun k S2 => (k = true → f S2 fun o S3 => I (acc ++ [o]) r (unw S0 S3 vs)) ∧ (k = false → I acc r (unw S0 S2 vs))
def fLcOwn (i : Nat) (g : DG) (t : DT) (f : DE) (vs : List Nat) : DF := fun S R => onOwnL (fun l => l.length ≤ sizeLine ∧ LcOwn i g t f vs l S fun acc S2 => R (.lst acc) S2) (getS S i)
section
variable {X : Cx} {z : Z} {elt tg iter : Expr} {ifs : List Expr} {scope : Scope} {own : List (Str × Nat)} {pos : Pos} {g : TG} {gd : DG} {t : DT} {f : DE}
theorem lc_useO {s0 : Nat} (hz : z.n.K = X.K) (hg : GOk X.K g gd (own.map (·.2))) (hp : ∀ i ∈ own.map (·.2), z.pr i = none) {F : Hp} {σ : L2.St} {H : Hp} {S : SS} {R : Ct → SS → Prop} (r : Rep z F σ H S) (hf : fLcOwn s0 gd t f (own.map (·.2)) S R) {Q : VK} (kQ : ∀ v H', PostF z F σ R v H' → Q v H') :
    tLc (iList X.K (tVar s0)) g (tTx z.n z.pr t) (tEx z.n z.pr f) (own.map (·.2)) σ H Q := by
  obtain ⟨l, g0, hl, ⟨⟨I, q, qo, qn, qs⟩⟩⟩ := onOwnL.get hf
  have g1 := getS_some g0 (by intro x; cases x)
  obtain ⟨a0, e1, f1, n1, ys, h0, s0'⟩ := r.sl s0 _ g1
  refine ⟨.ref a0, e1, a0, rfl, ⟨ys, SqL.of h0⟩, fun D nD => ?_⟩
  have x0 : Ext z.n F F := Ext.refl
  have at0 : ∀ {F1 : Hp} {H1 : Hp} {S1 : SS} {acc r2 : List DL.D}, Rep z F1 σ H1 S1 → I acc r2 S1 → ∃ xs, H1 a0 = some (.lst xs) ∧ Rps z.n F1 l xs := fun {F1 H1 S1 acc r2} r1 q1 => by
    obtain ⟨a', e2, _, _, xs, h1, s1⟩ := r1.sl s0 _ (getS_some (qo _ _ _ q1) (by intro x; cases x))
    rw [e1] at e2
    cases e2
    exact ⟨xs, h1, s1⟩
  refine ⟨fun i m H1 => m = l.length - i ∧ i ≤ l.length ∧ ∃ F1 S1 acc xs, Ext z.n F F1 ∧ Rep z F1 σ H1 S1 ∧ H1 D = some (.lst xs) ∧ Fresh z σ F1 H1 S1 (.lst acc) D ∧ xs.length = acc.length ∧ acc.length ≤ i ∧ I acc (l.drop i) S1, ?_, ?_⟩
  · obtain ⟨r1, fr⟩ := r.fresh (c := .lst []) (o := .lst []) nD ⟨[], upd_same, rfl⟩
    exact ⟨l.length, by omega, by omega, F, S, [], [], Ext.refl, r1, upd_same, fr, rfl, by simp, by simpa using q⟩
  · rintro i m H1 ⟨rfl, hi, F1, S1, acc, xs, x1, r1, hD, fr, hlen, hacc, q1⟩
    obtain ⟨zs, hzs, szs⟩ := at0 r1 q1
    by_cases he : i = l.length
    · refine .inl ⟨⟨zs, SqL.of hzs, by rw [szs.length]; omega⟩, ?_⟩
      rw [he, List.drop_length] at q1
      exact kQ _ _ ⟨F1, S1, .lst acc, D, rfl, x0.trans x1, r1, fr, qn _ _ q1⟩
    · have hi' : i < l.length := by omega
      have hx' : i < zs.length := by rw [szs.length]; exact hi'
      refine .inr ⟨⟨zs, zs[i], SqL.of hzs, List.getElem?_eq_getElem hx'⟩, fun H2 => ∃ F2 S2 acc xs, Ext z.n F F2 ∧ Rep z F2 σ H2 S2 ∧ H2 D = some (.lst xs) ∧ Fresh z σ F2 H2 S2 (.lst acc) D ∧ xs.length = acc.length ∧ acc.length ≤ i + 1 ∧ I acc (l.drop (i + 1)) S2, ?_, ?_⟩
      · rintro H2 ⟨F2, S2, acc2, xs2, a1, a2, a3, a4, a5, a6, a7⟩
        exact ⟨l.length - (i + 1), by omega, rfl, by omega, F2, S2, acc2, xs2, a1, a2, a3, a4, a5, a6, a7⟩
      · intro v H2 hy
        obtain ⟨rfl, hy⟩ := hy
        obtain ⟨d, e2, h2⟩ := szs.getV (hy zs (SqL.of hzs))
        obtain ⟨F2, eF⟩ : ∃ F2, F2 = F1 := ⟨_, rfl⟩
        rw [← eF] at h2
        have x2 : Ext z.n F1 F2 := eF ▸ Ext.refl
        have x3 : Ext z.n F2 H2 := eF ▸ r1.ext
        have nw : ∀ a o, F2 a = some o → Nw F1 H2 a o := fun a o h => .inl ⟨o, eF ▸ h⟩
        have kp : ∀ a o, H2 a = some o → H2 a = some o := fun _ _ h => h
        have r2 := r1.grow x2 nw kp x3
        have hD2 := kp D _ hD
        have fD2 : F2 D = none := by
          cases e : F2 D with
          | none => rfl
          | some u =>
            rcases nw D u e with ⟨o0, q0⟩ | q0 | ⟨_, _, q0⟩
            · rw [fr.out] at q0; cases q0
            · rw [hD] at q0; cases q0
            · rw [hD] at q0; cases q0
        have pD : ∀ j, z.pr j ≠ some D := fun j hj => by
          obtain ⟨⟨o, ho⟩, _⟩ := r1.pi0 j D hj
          rw [fr.new] at ho; cases ho
        have bD : blkH z σ H2 S1 D = some (.lst xs) := by rw [blkH_at fr.ne]; exact hD2
        obtain ⟨xs', hx', sx⟩ := fr.ct
        rw [hD] at hx'; cases hx'
        rw [drop_cons e2] at q1
        refine hg.ok (z := blkZ z F2 σ H2 S1) hz hp (r2.block.wiped hp) h2 (qs _ _ _ _ q1) fun σ3 S3 r3 q3 o3 l3 => ?_
        have we : wipe σ3 (own.map (·.2)) = wipe σ (own.map (·.2)) := wipe_eq o3 l3
        -- behind the block: everything back, the list as it stands
        have fin : ∀ {F5 : Hp} {H5 : Hp} {S5 : SS}, Ext z.n F2 F5 → Rep (blkZ z F2 σ H2 S1) F5 σ3 H5 S5 → Rep z F5 σ H5 (unw S1 S5 (own.map (·.2))) ∧ H5 D = some (.lst xs) ∧ F5 D = none ∧ ∀ (j : Nat) (c : Ct), (unw S1 S5 (own.map (·.2)))[j]? = some (.own c) → σ[j]? ≠ some (some (.ref D)) := fun {F5 H5 S5} x5 r5 => by
          have hp3 : ∀ i a, z.pr i = some a → σ3[i]? = some (some (.ref a)) := r5.pin
          have rb := r2.back x5 r5 hp3
          have ru := r2.unwiped rb x5 we
          have hD5 : H5 D = some (.lst xs) := r5.keep D _ bD pD
          have fD5 : F5 D = none := by
            cases e : F5 D with
            | none => rfl
            | some u =>
              rcases r5.new D u e with ⟨o0, q0⟩ | q0 | ⟨_, _, q0⟩
              · rw [show F2 D = some o0 from q0] at fD2; cases fD2
              · rw [show blkH z σ H2 S1 D = none from q0] at bD; cases bD
              · rw [show blkH z σ H2 S1 D = _ from q0] at bD; cases bD
          refine ⟨ru, hD5, fD5, fun j c hj ej => ?_⟩
          rcases unw_get hj with e1 | ⟨_, d', e1, _⟩ | ⟨nj, hj'⟩
          · cases e1
          · cases e1
          · obtain ⟨a, e1, _, n1, _⟩ := r5.sl j _ hj'
            have : σ3[j]? = σ[j]? := by rw [← wipe_out (σ := σ3) nj, we, wipe_out nj]
            rw [this, ej] at e1; cases e1
            rcases n1 with n1 | n1
            · rw [show blkH z σ H2 S1 D = none from n1] at bD; cases bD
            · exact pD j n1
        refine ⟨we, F2, blkH z σ H2 S1, tT.use r3 q3 fun k H4 F4 S4 x4 r4 q4 => ?_⟩
        cases k with
        | true =>
          refine iteT ⟨F2, blkH z σ H2 S1, tE.use r4 (q4.1 rfl) fun y H5 F5 S5 o x5 r5 h5 q5 => ?_⟩
          obtain ⟨ru, hD5, fD5, nD5⟩ := fin (x4.trans x5) r5
          refine ⟨xs, hD5, by have := hl; omega, F5, _, acc ++ [o], xs ++ [y], x1.trans (x2.trans (x4.trans x5)), ru.poke fD5 fr.new nD5, upd_same, ?_, by simp [hlen], by simp; omega, q5⟩
          exact ⟨fD5, fr.new, ⟨_, upd_same, (sx.mono (x2.trans (x4.trans x5))).append (Rps.one h5)⟩, nD5⟩
        | false =>
          refine iteF ?_
          obtain ⟨ru, hD5, fD5, nD5⟩ := fin x4 r4
          exact ⟨F4, _, acc, xs, x1.trans (x2.trans x4), ru, hD5, ⟨fD5, fr.new, ⟨xs, hD5, sx.mono (x2.trans x4)⟩, nD5⟩, hlen, by omega, q4.2 rfl⟩
/-- name = [.. for .. in an owned list], the name holds it as a value -/
theorem js_setLcO {s0 i : Nat} {y : Str} {py spos : Pos} (hz : z.n.K = X.K) (hc : X.calm = true) (hN : X.N.Nodup) (hy : X.N[i]? = some y) (hyl : X.env.scope.names.lookup y = some .local) (pi : z.pr i = none)
    (hsw : swapsWith (.ListComp elt [⟨tg, iter, ifs, 0⟩] scope pos) (some (.Name y py)) spos.line X.env = pure true) (ho : PE X iter (tVar s0)) (ok : BlkOk X.N X.env.scope scope own)
    (hg : ∀ (s : Shared) (H : Hp) (C : Addr) (cl : List (Str × Addr)) (fp : List Addr), PG (X.blk s H scope (compEnvC scope cl C X.env) fp) tg g) (hgo : GOk X.K g gd (own.map (·.2))) (hp : ∀ i ∈ own.map (·.2), z.pr i = none)
    (ht : ∀ (F0 H0 : Hp) (s : Shared) (H : Hp) (C : Addr) (cl : List (Str × Addr)) (fp : List Addr), JTs (X.blk s H scope (compEnvC scope cl C X.env) fp) ⟨z.n, F0, H0, z.pr⟩ ifs t)
    (he : ∀ (F0 H0 : Hp) (s : Shared) (H : Hp) (C : Addr) (cl : List (Str × Addr)) (fp : List Addr), JE (X.blk s H scope (compEnvC scope cl C X.env) fp) ⟨z.n, F0, H0, z.pr⟩ elt f) (hs : ∀ x, foldedSetIterable iter X.env x = pure x := by intro _; rfl) :
    JS X z (.Assign [.Name y py] (.ListComp elt [⟨tg, iter, ifs, 0⟩] scope pos) spos) (dAsg (dFrz (fLcOwn s0 gd t f (own.map (·.2)))) (gN i)) :=
  JS.of (ps_setLc hc hN hy hyl hsw (pi_list ho) ok hg (fun s H C cl fp => PTs.ex fun F0 H0 => ht F0 H0 s H C cl fp) (fun s H C cl fp => PE.ex fun F0 H0 => he F0 H0 s H C cl fp) hs) fun F σ H S E r hf => by
    have hf' : fLcOwn s0 gd t f (own.map (·.2)) S fun c S' => ∃ l, c = .lst l ∧ E.nx (setS S' i (.val c.d)) := by
      obtain ⟨l, g0, hl, ⟨⟨I, q, qo, qn, qs⟩⟩⟩ := onOwnL.get (show onOwnL (fun l => l.length ≤ sizeLine ∧ LcOwn s0 gd t f (own.map (·.2)) l S fun acc S2 => E.nx (setS S2 i (.val (Ct.lst acc).d))) (getS S s0) from hf)
      show onOwnL _ (getS S s0)
      rw [g0]
      exact ⟨hl, ⟨⟨I, q, qo, fun acc S1 h => ⟨acc, rfl, qn acc S1 h⟩, qs⟩⟩⟩
    refine lc_useO hz hgo hp r hf' (Q := fun x H1 => gName i x σ H1 (endsOf z F E).nx) fun v H' ⟨F', S', c, a, e, x, r', fr, l, ec, q⟩ => ?_
    subst e ec
    obtain ⟨xs, e1, q1⟩ := fr.ct
    exact ⟨upd F' a (.lst xs), _, x.trans (Ext.new fr.out), (r'.join e1 fr.out fr.new fr.ne).setVal (d := .lst l) pi ⟨a, xs, rfl, upd_same, q1.mono (Ext.new fr.out)⟩, q⟩
end
end DL

namespace PySem
section
variable {prog : Program} {w : World} {K : Type} [DecidableEq K] {knd : HeapKind prog w K} {A : Around} {E : Value → Shared → Prop} {s : Shared} {a b : Addr} {ls ms : List (K × Addr × Value)}
theorem dt_pairs {nm : String} {Q : Bool → Shared → Prop} (room : knd.room A) (na : (a == sysModules) = false) (nb : (b == sysModules) = false) (da : s.heap.DictOfH knd a ls) (db : s.heap.DictOfH knd b ms)
    (ta : ∀ p ∈ ls, p.2.2 = .bool true) (tb : ∀ p ∈ ms, p.2.2 = .bool true) (q : Q (decide (ls.length = ms.length) && ls.all fun p => (atKey ms p.1).isSome) s) :
    wpAny (model prog w) A (Builtin.Dict.samePairs nm a b) Q E s := by
  obtain ⟨o1, v1, t1, g1, c1, d1, e1, i1, n1⟩ := da
  obtain ⟨o2, v2, t2, g2, c2, d2, e2, i2, n2⟩ := db
  have z1 : v1.size = ls.length := size_of_entries e1
  have z2 : v2.size = ms.length := size_of_entries e2
  unfold Builtin.Dict.samePairs Builtin.Dict.showsAll
  rw [na, nb]
  simp only [Bool.false_eq_true, if_false]
  refine wpAny_bind (wpAny_pure (wpAny_bind (wpAny_pure ?_)))
  refine wpAny_bind (wpAny_dictEntries g1 d1 ?_)
  refine wpAny_bind (wpAny_dictEntries g2 d2 ?_)
  rw [z1, z2]
  by_cases hz : ls.length = ms.length
  · rw [decide_eq_true hz, Bool.true_and] at q
    have hb : (ls.length != ms.length) = false := by rw [hz]; exact bne_self_eq_false _
    rw [hb]
    simp only [Bool.false_eq_true, if_false]
    refine wpAny_bind (wpAny_dictEpoch g1 d1 ?_)
    refine wpAny_bind ?_
    refine PySem.SeqAt.wpAny_forIn_span 0 ls.length _ (fun i c s' => s' = s ∧ c = (none, ()) ∧ ∀ p ∈ ls.take i, (atKey ms p.1).isSome = true) _ ?_ ?_ _ ⟨rfl, rfl, fun p hp => by simp at hp⟩
    · rintro i c s' _ hi ⟨rfl, rfl, hd⟩
      refine wpAny_bind (wpAny_dictEntries g1 d1 ?_)
      obtain ⟨⟨k, adr, val⟩, hk⟩ : ∃ p, ls[i]? = some p := ⟨_, List.getElem?_eq_getElem hi⟩
      have hm := List.mem_of_getElem? hk
      have tv : val = .bool true := ta _ hm
      have hkey := i1 _ hm
      rw [entry_at e1 i, hk]
      show wpAny _ _ (holding _ _ >>= _) _ _ _
      refine wpAny_bind (wpAny_holding (wpAny_bind (wpAny_dictFind_heap room hkey g2 d2 e2 i2 n2 ?_ ?_)))
      · intro hno
        have hn : atKey ms k = none := atKey_none_of_get hno
        refine wpAny_pure ?_
        show wpAny _ _ (if (!false) = true then _ else _) _ _ _
        rw [if_pos (by decide)]
        refine wpAny_pure (wpAny_pure ?_)
        have : (ls.all fun p => (atKey ms p.1).isSome) = false := by
          refine List.all_eq_false.mpr ⟨_, hm, ?_⟩
          show ¬ (atKey ms k).isSome = true
          rw [hn]; simp
        rw [this] at q
        exact q
      · intro j p hj
        refine wpAny_bind (wpAny_dictEntries g2 d2 ?_)
        rw [entry_at e2 j, hj]
        have tw : p.2 = .bool true := tb _ (List.mem_of_getElem? hj)
        refine wpAny_holding ?_
        show wpAny _ _ (eqBool val p.2) _ _ _
        rw [tv, tw]
        refine (SeqAt.EqAt.same (A := A) (s := s') (Value.bool true)).eqP _ _ ?_
        show wpAny _ _ (if (!true) = true then _ else _) _ _ _
        rw [if_neg (by decide)]
        refine wpAny_bind (wpAny_dictEpoch g1 d1 ?_)
        rw [if_neg (by simp)]
        refine wpAny_pure ⟨rfl, rfl, fun p' hp => ?_⟩
        rw [List.take_succ, hk] at hp
        rcases List.mem_append.mp hp with hp | hp
        · exact hd p' hp
        · simp only [Option.toList_some, List.mem_singleton] at hp
          subst hp
          show (atKey ms k).isSome = true
          rw [atKey_of_get n2 hj]; rfl
    · rintro c s' ⟨rfl, rfl, hd⟩
      have : (ls.all fun p => (atKey ms p.1).isSome) = true := List.all_eq_true.mpr fun p hp => hd p (by rw [Nat.max_eq_right (Nat.zero_le _), List.take_length]; exact hp)
      rw [this] at q
      exact wpAny_pure q
  · rw [decide_eq_false hz, Bool.false_and] at q
    rw [show (ls.length != ms.length) = true from bne_iff_ne.mpr hz]
    simp only [if_true]
    exact wpAny_bind (wpAny_rule (wpAny_pure q))
end
end PySem
namespace PySem
section
variable {prog : Program} {w : World} {K : Type} [DecidableEq K] {knd : HeapKind prog w K} {A : Around} {s : Shared} {a b : Addr} {ls ms : List (K × Addr × Value)}
theorem dt_rich {Q E : Value → Shared → Prop} (hu : A.units < cLine) (room : knd.room A.in1) (na : (a == sysModules) = false) (nb : (b == sysModules) = false) (d1 : s.heap.DictOfH knd a ls) (d2 : s.heap.DictOfH knd b ms)
    (ta : ∀ p ∈ ls, p.2.2 = .bool true) (tb : ∀ p ∈ ms, p.2.2 = .bool true) (q : Q (.bool (decide (ls.length = ms.length) && ls.all fun p => (atKey ms p.1).isSome)) s) :
    wpAny (model prog w) A (richCompare .Eq (.ref a) (.ref b)) Q E s := by
  have entry := PySem.F.entry_dict_eq
  have slot := PySem.F.slot_dict_eq
  have t1 := d1.typeIs
  have t2 := d2.typeIs
  apply wpAny_richCompare_same_room (op := .Eq) t1 t2 slot (hu := hu)
  apply wpAny_call_entry slot t1 entry (ha := PySem.F.args_dict_eq_2 _ _)
  show wpAny _ _ (Builtin.Dict.dictSlotArgs "__eq__" ⟨[_, _], []⟩ >>= _) _ _ s
  apply wpAny_bind
  unfold Builtin.Dict.dictSlotArgs
  apply wpAny_bind
  apply wpAny_notOrdered_dict t1
  apply wpAny_pure
  apply wpAny_bind
  apply wpAny_isInstance (T := "dict") t2 PySem.F.sub_dict_dict
  simp only [Bool.not_true, if_false, Bool.false_eq_true]
  apply wpAny_bind
  apply wpAny_pure
  apply wpAny_bind
  apply wpAny_pure
  apply wpAny_bind
  apply dt_pairs room na nb d1 d2 ta tb
  apply wpAny_pure
  exact ⟨_, rfl, (fun x => nomatch x), by simpa using q⟩
end
end PySem
namespace DL
open PySem L2 PySem.Spec PyProof.Rows PySem.SeqAt
/-- == of two dicts by tuples that hold True alone -/
def rEqT : R2 := fun x y H Q => ∃ a b ls ms, x = V.ref a ∧ y = V.ref b ∧ Rd H a (.dT ls) ∧ Rd H b (.dT ms) ∧ (∀ p ∈ ls, p.2 = V.bl true) ∧ (∀ p ∈ ms, p.2 = V.bl true) ∧ Q (.bl (decide (ls.length = ms.length) && ls.all fun p => (valV ms p.1).isSome)) H
theorem kt_true {H : Hp} {ls : List (List Key × V)} {xs : List (List Key × Addr × Value)} (r : KT H ls xs) (h : ∀ p ∈ ls, p.2 = V.bl true) : ∀ q ∈ xs, q.2.2 = .bool true := by
  induction r with
  | nil => intro q hq; cases hq
  | @cons p q ps qs e t ih =>
    intro q' hq
    rcases List.mem_cons.mp hq with rfl | hq
    · have w := e.2.2
      rw [h p List.mem_cons_self] at w
      exact w
    · exact ih (fun p' hp => h p' (List.mem_cons_of_mem _ hp)) _ hq
theorem kt_all {H : Hp} {ls : List (List Key × V)} {xs : List (List Key × Addr × Value)} (r : KT H ls xs) {f : List Key → Bool} : (ls.all fun p => f p.1) = xs.all fun p => f p.1 := by
  induction r with
  | nil => rfl
  | cons e t ih => rw [List.all_cons, List.all_cons, ih, e.1]
section
variable {X : Cx} {z : Z}
theorem op_eqT (hu : X.A.units + 64 < cLine) : OpR X (compareOp .Eq) rEqT := by
  rintro pins s σ H x y v u Q I rx ry ⟨a, b, ls, ms, rfl, rfl, ra, rb, ta, tb, q⟩
  cases (show v = Value.ref a from rx)
  cases (show u = Value.ref b from ry)
  obtain ⟨_, na, xs, r1, d1⟩ := dt_rd I.hok ra
  obtain ⟨_, nb, ys, r2, d2⟩ := dt_rd I.hok rb
  refine dt_rich (by omega) (tupleKind_room_in1 (by omega)) na nb d1 d2 (kt_true r1 ta) (kt_true r2 tb) ⟨.bl (decide (xs.length = ys.length) && xs.all fun p => (atKey ys p.1).isSome), H, I, rfl, ?_⟩
  have e1 : xs.length = ls.length := r1.length.symm
  have e2 : ys.length = ms.length := r2.length.symm
  have e3 : (xs.all fun p => (atKey ys p.1).isSome) = ls.all fun p => (valV ms p.1).isSome := by
    rw [kt_all (f := fun k => (valV ms k).isSome) r1]
    refine congrArg xs.all (funext fun p => ?_)
    have w := (r2.val p.1).isSome_eq
    rw [Option.isSome_map] at w
    exact w.symm
  rw [e1, e2, e3]
  exact q
/-- a dict by tuples that holds True alone -/
def Tru (l : List (TKey × D)) : Prop := ∀ p ∈ l, p.2 = .bl true
/-- the same keys -/
def sameT (l m : List (TKey × D)) : Bool := decide (l.length = m.length) && l.all fun p => (lookT m p.1).isSome
def gEqT : G2 := fun d e k => match d with
  | .dT l => match e with
    | .dT m => Tru l ∧ Tru m ∧ k (.bl (sameT l m))
    | _ => False
  | _ => False
theorem rpt_true {n : Nm} {F : Hp} : ∀ {l : List (TKey × D)} {xs : List (TKey × V)}, RpT n F l xs → Tru l → ∀ p ∈ xs, p.2 = V.bl true
  | [], xs, r, _ => by
    rw [show xs = [] from r]
    intro p hp; cases hp
  | (k, d) :: l, xs, r, h => by
    obtain ⟨v, r', rfl, h1, h2⟩ := r
    intro p hp
    rcases List.mem_cons.mp hp with rfl | hp
    · have e : d = .bl true := h _ List.mem_cons_self
      rw [e] at h1
      exact h1
    · exact rpt_true h2 (fun q hq => h q (List.mem_cons_of_mem _ hq)) p hp
theorem rpt_all {n : Nm} {F : Hp} {f : TKey → Bool} : ∀ {l : List (TKey × D)} {xs : List (TKey × V)}, RpT n F l xs → (xs.all fun p => f p.1) = l.all fun p => f p.1
  | [], xs, r => by rw [show xs = [] from r]; rfl
  | (k, d) :: l, xs, r => by
    obtain ⟨v, r', rfl, _, h2⟩ := r
    rw [List.all_cons, List.all_cons, rpt_all h2]
theorem rpt_some {n : Nm} {F : Hp} {l : List (TKey × D)} {xs : List (TKey × V)} (r : RpT n F l xs) (k : TKey) : (valV xs k).isSome = (lookT l k).isSome := by
  have w := RpT.look (k := k) r
  cases h : lookT l k with
  | none => rw [w.2 h]; rfl
  | some d =>
    obtain ⟨v, e, _⟩ := w.1 d h
    rw [e]; rfl
theorem bd_eqT (hu : X.A.units + 64 < cLine) : BinD X z (compareOp .Eq) gEqT :=
  ⟨⟨_, op_eqT hu, fun x y H Q Q' k h => by
    obtain ⟨a, b, ls, ms, h1, h2, h3, h4, h5, h6, q⟩ := h
    exact ⟨a, b, ls, ms, h1, h2, h3, h4, h5, h6, k _ _ q⟩, ⟨fun {F σ H S x y d e k} r r1 r2 c => by
    cases d with
    | dT l =>
      cases e with
      | dT m =>
        obtain ⟨tl, tm, q⟩ := c
        obtain ⟨a, xs, rfl, ra, p1⟩ := r1
        obtain ⟨b, ys, rfl, rb, p2⟩ := r2
        refine ⟨a, b, xs, ys, rfl, rfl, ra, rb, rpt_true p1 tl, rpt_true p2 tm, F, .bl (sameT l m), Ext.refl, r, ?_, q⟩
        refine congrArg V.bl ?_
        rw [p1.len, p2.len, rpt_all (f := fun k => (valV ys k).isSome) p1]
        refine congrArg (decide (l.length = m.length) && ·) (congrArg l.all (funext fun p => rpt_some p2 p.1))
      | _ => exact c.elim
    | _ => exact c.elim⟩⟩⟩
end
end DL

namespace PySem
/-- a strict zip object -/
abbrev ZipS (h : Heap) (z TI TO : Addr) (f0 : Value) : Prop :=
  h.get? z = some { cls := .type "zip", data := .fields #[f0, .bool false, .bool true, .ref TI, .ref TO] }
section
variable {prog : Program} {w : World} {A : Around} {E : Value → Shared → Prop} {s : Shared}
theorem drawS_item {p l : Addr} {i : Nat} {items : Array Value} {x : Value} {Q : Option Value → Shared → Prop} (at_ : s.heap.IsListIter p l i) (of_ : s.heap.IsList l items) (hx : items[i]? = some x)
    (k : ∀ h', h'.IsListIter p l (i + 1) → Heap.SameBut p s.heap h' → Q (some x) { s with heap := h' }) : wpAny (model prog w) A (Builtin.SmallTypes.nextOrEnd (.ref p)) Q E s := by
  unfold Builtin.SmallTypes.nextOrEnd
  exact wpAny_bind (wpAny_attempt (wpAny_nextOf_list_item at_ of_ hx fun h' a b => wpAny_pure (k h' a b)))
theorem drawS_end {p l : Addr} {i : Nat} {items : Array Value} {Q : Option Value → Shared → Prop} (hh : A.handled = none) (at_ : s.heap.IsListIter p l i) (of_ : s.heap.IsList l items) (hx : items[i]? = none)
    (k : ∀ h', (∀ c o, c ≠ p → s.heap.get? c = some o → h'.get? c = some o) → Q none { s with heap := h' }) : wpAny (model prog w) A (Builtin.SmallTypes.nextOrEnd (.ref p)) Q E s := by
  unfold Builtin.SmallTypes.nextOrEnd
  refine wpAny_bind (wpAny_attempt (wpAny_nextOf_list_end hh at_ of_ hx fun h' e same ex => ?_))
  obtain ⟨o, ho, hc⟩ := ex
  refine wpAny_bind (wpAny_isInstance (T := "StopIteration") (b := true) ⟨o, ho, hc⟩ isSubtype_stop ?_)
  exact wpAny_pure (k h' same)
theorem zipS_item {z TI TO p q l m : Addr} {i j : Nat} {xs ys : Array Value} {x y a b : Value} {Q : Value → Shared → Prop} (D : ZipApart z TI TO p q l m)
    (z0 : ZipS s.heap z TI TO .none) (t0 : IsPair s.heap TI (.ref p) (.ref q)) (o0 : IsPair s.heap TO a b)
    (p0 : s.heap.IsListIter p l i) (q0 : s.heap.IsListIter q m j) (l0 : s.heap.IsList l xs) (m0 : s.heap.IsList m ys) (hx : xs[i]? = some x) (hy : ys[j]? = some y)
    (k : ∀ h', ZipS h' z TI TO (rawInt s.heap.objs.size) → IsPair h' TO x y → h'.IsListIter p l (i + 1) → h'.IsListIter q m (j + 1) → IsPair h' s.heap.objs.size x y → h'.objs.size = s.heap.objs.size + 1 →
      (∀ c o, c ≠ z → c ≠ TO → c ≠ p → c ≠ q → s.heap.get? c = some o → h'.get? c = some o) → Q (.ref s.heap.objs.size) { s with heap := h' }) :
    wpAny (model prog w) A (Builtin.«zip.__next__» ⟨[.ref z], []⟩) (fun fin s' => ∃ v, fin = .done (.ret v) ∧ Q v s') E s := by
  show wpAny _ _ (field (.ref z) 2 >>= _) _ _ _
  apply wpAny_bind
  apply wpAny_field z0 rfl (x := .bool true) rfl
  show wpAny _ _ (field (.ref z) 3 >>= _) _ _ _
  apply wpAny_bind
  apply wpAny_field z0 rfl (x := .ref TI) rfl
  apply wpAny_bind
  apply wpAny_seqItems t0 rfl
  show wpAny _ _ (Builtin.SmallTypes.ownedTupleIsFree _ >>= _) _ _ _
  apply wpAny_bind
  unfold Builtin.SmallTypes.ownedTupleIsFree
  apply wpAny_bind
  apply wpAny_field z0 rfl (x := .none) rfl
  apply wpAny_pure
  simp only [if_true]
  apply wpAny_bind
  apply wpAny_rule
  apply wpAny_bind
  apply wpAny_field z0 rfl (x := .ref TO) rfl
  apply wpAny_bind
  refine wpAny_setField_rec z0 (by simp) fun ha z1 sa => ?_
  have z1 : ZipS ha z TI TO .ellipsis := z1
  apply wpAny_bind
  simp only [List.zipIdx_cons, List.forIn_cons, List.zipIdx_nil, List.forIn_nil]
  apply wpAny_bind
  apply wpAny_bind
  apply wpAny_onRaise
  show wpAny _ _ (Builtin.SmallTypes.nextOrEnd _) _ _ _
  refine drawS_item (p0.extBut sa.extBut D.i1z) (l0.extBut sa.extBut D.l1z) hx fun hb p1 sb => ?_
  have o1 : IsPair hb TO a b := sb.extBut _ _ D.TOi1 (sa.extBut _ _ D.TOz o0)
  apply wpAny_bind
  apply wpAny_seqItems o1 rfl
  apply wpAny_bind
  refine wpAny_updateSeq_pair o1 fun hc o2 sc => ?_
  have o2 : IsPair hc TO x b := o2
  apply wpAny_bind
  apply wpAny_letGo
  apply wpAny_pure
  apply wpAny_bind
  apply wpAny_bind
  apply wpAny_onRaise
  show wpAny _ _ (Builtin.SmallTypes.nextOrEnd _) _ _ _
  have q1 := ((q0.extBut sa.extBut D.i2z).extBut sb.extBut D.i12.symm).extBut sc.extBut D.TOi2.symm
  have m1 := ((m0.extBut sa.extBut D.l2z).extBut sb.extBut D.l2i1).extBut sc.extBut D.l2TO
  refine drawS_item q1 m1 hy fun hd q2 sd => ?_
  have o3 : IsPair hd TO x b := sd.extBut _ _ D.TOi2 o2
  apply wpAny_bind
  apply wpAny_seqItems o3 rfl
  apply wpAny_bind
  refine wpAny_updateSeq_pair o3 fun he o4 se => ?_
  have o4 : IsPair he TO x y := o4
  apply wpAny_bind
  apply wpAny_letGo
  apply wpAny_pure
  apply wpAny_pure
  apply wpAny_bind
  apply wpAny_seqItems o4 rfl
  apply wpAny_bind
  refine wpAny_newTuple ?_
  have sz : he.objs.size = s.heap.objs.size := by rw [se.1, sd.1, sc.1, sb.1, sa.1]
  have kp : ∀ c o, c ≠ z → c ≠ TO → c ≠ p → c ≠ q → s.heap.get? c = some o → he.get? c = some o := fun c o n1 n2 n3 n4 g =>
    se.extBut c o n2 (sd.extBut c o n4 (sc.extBut c o n2 (sb.extBut c o n3 (sa.extBut c o n1 g))))
  have z2 : ZipS he z TI TO .ellipsis := se.extBut z _ D.TOz.symm (sd.extBut z _ D.i2z.symm (sc.extBut z _ D.TOz.symm (sb.extBut z _ D.i1z.symm z1)))
  have p2 := ((p1.extBut sc.extBut D.TOi1.symm).extBut sd.extBut D.i12).extBut se.extBut D.TOi1.symm
  have q3 := q2.extBut se.extBut D.TOi2.symm
  have zlt : z < he.objs.size := Heap.lt_size z2
  show wpAny _ _ (Builtin.SmallTypes.ownedTupleHandOut (.ref z) (.ref he.objs.size) >>= _) _ _ _
  apply wpAny_bind
  unfold Builtin.SmallTypes.ownedTupleHandOut
  have z3 : ZipS (he.push { cls := .type "tuple", data := .seq #[x, y] }) z TI TO .ellipsis := Heap.get?_push_of_some _ z2
  apply wpAny_bind
  refine wpAny_setField_rec z3 (by simp) fun hf z4 sf => ?_
  have z4 : ZipS hf z TI TO (rawInt he.objs.size) := z4
  refine wpAny_setField_rec z4 (by simp) fun hg z5 sg => ?_
  have z5 : ZipS hg z TI TO (rawInt he.objs.size) := z5
  have up : ∀ c o, c ≠ z → he.get? c = some o → hg.get? c = some o := fun c o n g => sg.extBut c o n (sf.extBut c o n (Heap.get?_push_of_some _ g))
  have t5 : IsPair hg he.objs.size x y := sg.extBut _ _ (Nat.ne_of_gt zlt) (sf.extBut _ _ (Nat.ne_of_gt zlt) (Heap.get?_push_size _ rfl))
  have sz2 : hg.objs.size = he.objs.size + 1 := by rw [sg.1, sf.1, Heap.size_push]
  rw [sz] at z5 t5 sz2
  refine wpAny_pure ⟨_, rfl, ?_⟩
  show Q (.ref he.objs.size) _
  rw [sz]
  exact k hg z5 (up _ _ D.TOz o4) (p2.at fun o e => up p o D.i1z e) (q3.at fun o e => up q o D.i2z e) t5 sz2 fun c o n1 n2 n3 n4 g => up c o n1 (kp c o n1 n2 n3 n4 g)
end
end PySem
namespace PySem
section
variable {prog : Program} {w : World} {A : Around} {E : Value → Shared → Prop} {s : Shared}
theorem zipS_end {z TI TO p q l m : Addr} {i j : Nat} {xs ys : Array Value} {a b : Value} {Q : Fin → Shared → Prop} (hh : A.handled = none) (D : ZipApart z TI TO p q l m)
    (z0 : ZipS s.heap z TI TO .none) (t0 : IsPair s.heap TI (.ref p) (.ref q)) (o0 : IsPair s.heap TO a b)
    (p0 : s.heap.IsListIter p l i) (q0 : s.heap.IsListIter q m j) (l0 : s.heap.IsList l xs) (m0 : s.heap.IsList m ys) (hx : xs[i]? = none) (hy : ys[j]? = none)
    (k : ∀ h' e, (∀ c o, c ≠ z → c ≠ TO → c ≠ p → c ≠ q → s.heap.get? c = some o → h'.get? c = some o) → (∃ o, h'.get? e = some o ∧ o.cls = .type "StopIteration") → E (.ref e) { s with heap := h' }) :
    wpAny (model prog w) A (Builtin.«zip.__next__» ⟨[.ref z], []⟩) Q E s := by
  show wpAny _ _ (field (.ref z) 2 >>= _) _ _ _
  apply wpAny_bind
  apply wpAny_field z0 rfl (x := .bool true) rfl
  show wpAny _ _ (field (.ref z) 3 >>= _) _ _ _
  apply wpAny_bind
  apply wpAny_field z0 rfl (x := .ref TI) rfl
  apply wpAny_bind
  apply wpAny_seqItems t0 rfl
  show wpAny _ _ (Builtin.SmallTypes.ownedTupleIsFree _ >>= _) _ _ _
  apply wpAny_bind
  unfold Builtin.SmallTypes.ownedTupleIsFree
  apply wpAny_bind
  apply wpAny_field z0 rfl (x := .none) rfl
  apply wpAny_pure
  simp only [if_true]
  apply wpAny_bind
  apply wpAny_rule
  apply wpAny_bind
  apply wpAny_field z0 rfl (x := .ref TO) rfl
  apply wpAny_bind
  refine wpAny_setField_rec z0 (by simp) fun ha z1 sa => ?_
  have z1 : ZipS ha z TI TO .ellipsis := z1
  apply wpAny_bind
  simp only [List.zipIdx_cons, List.forIn_cons, List.zipIdx_nil, List.forIn_nil]
  apply wpAny_bind
  apply wpAny_bind
  apply wpAny_onRaise
  show wpAny _ _ (Builtin.SmallTypes.nextOrEnd _) _ _ _
  refine drawS_end hh (p0.extBut sa.extBut D.i1z) (l0.extBut sa.extBut D.l1z) hx fun hb kb => ?_
  have z2 : ZipS hb z TI TO .ellipsis := kb _ _ D.i1z.symm z1
  apply wpAny_bind
  refine wpAny_setField_rec z2 (by simp) fun hc z3 sc => ?_
  have q1 : hc.IsListIter q m j := ((q0.extBut sa.extBut D.i2z).at fun o g => kb q o D.i12.symm g).extBut sc.extBut D.i2z
  have m1 : hc.IsList m ys := ((m0.extBut sa.extBut D.l2z).at fun o g => kb m o D.l2i1 g).extBut sc.extBut D.l2z
  apply wpAny_bind
  show wpAny _ _ (forIn [(Value.ref q, 1)] _ _ >>= _) _ _ _
  apply wpAny_bind
  simp only [List.forIn_nil, List.forIn_cons]
  apply wpAny_bind
  apply wpAny_bind
  refine drawS_end hh q1 m1 hy fun hd kd => ?_
  simp only [Option.isSome_none, Bool.false_eq_true, if_false]
  apply wpAny_pure
  apply wpAny_pure
  apply wpAny_bind
  apply wpAny_rule
  refine DVw.raise_stop hh fun he e oe ke ge ce => ?_
  exact k he e (fun c o n1 n2 n3 n4 g => ke c o (kd c o n4 (sc.extBut c o n1 (kb c o n3 (sa.extBut c o n1 g))))) ⟨oe, ge, ce⟩
/-- the next pair -/
theorem nextS_item {z TI TO p q l m : Addr} {i j : Nat} {xs ys : Array Value} {x y a b : Value} {Q : Option Value → Shared → Prop} (D : ZipApart z TI TO p q l m)
    (z0 : ZipS s.heap z TI TO .none) (t0 : IsPair s.heap TI (.ref p) (.ref q)) (o0 : IsPair s.heap TO a b)
    (p0 : s.heap.IsListIter p l i) (q0 : s.heap.IsListIter q m j) (l0 : s.heap.IsList l xs) (m0 : s.heap.IsList m ys) (hx : xs[i]? = some x) (hy : ys[j]? = some y)
    (k : ∀ h', ZipS h' z TI TO (rawInt s.heap.objs.size) → IsPair h' TO x y → h'.IsListIter p l (i + 1) → h'.IsListIter q m (j + 1) → IsPair h' s.heap.objs.size x y → h'.objs.size = s.heap.objs.size + 1 →
      (∀ c o, c ≠ z → c ≠ TO → c ≠ p → c ≠ q → s.heap.get? c = some o → h'.get? c = some o) → Q (some (.ref s.heap.objs.size)) { s with heap := h' }) :
    wpAny (model prog w) A (pyNext (.ref z)) Q E s := by
  have ty : s.TypeIs (.ref z) "zip" := ⟨_, z0, rfl⟩
  unfold pyNext
  refine wpAny_bind (wpAny_attempt ?_)
  refine wpAny_callSpecial?_slot (name := "__next__") ty F.slot_zip_next ?_
  refine wpAny_call_entry F.slot_zip_next ty F.entry_zip_next ?_ (F.args_zip_next_1 (.ref z))
  exact zipS_item D z0 t0 o0 p0 q0 l0 m0 hx hy fun h' r1 r2 r3 r4 r5 r6 r7 => wpAny_pure (k h' r1 r2 r3 r4 r5 r6 r7)
/-- both lists have ended -/
theorem nextS_end {z TI TO p q l m : Addr} {i j : Nat} {xs ys : Array Value} {a b : Value} {Q : Option Value → Shared → Prop} (hh : A.handled = none) (D : ZipApart z TI TO p q l m)
    (z0 : ZipS s.heap z TI TO .none) (t0 : IsPair s.heap TI (.ref p) (.ref q)) (o0 : IsPair s.heap TO a b)
    (p0 : s.heap.IsListIter p l i) (q0 : s.heap.IsListIter q m j) (l0 : s.heap.IsList l xs) (m0 : s.heap.IsList m ys) (hx : xs[i]? = none) (hy : ys[j]? = none)
    (k : ∀ h', (∀ c o, c ≠ z → c ≠ TO → c ≠ p → c ≠ q → s.heap.get? c = some o → h'.get? c = some o) → Q none { s with heap := h' }) : wpAny (model prog w) A (pyNext (.ref z)) Q E s := by
  have ty : s.TypeIs (.ref z) "zip" := ⟨_, z0, rfl⟩
  unfold pyNext
  refine wpAny_bind (wpAny_attempt ?_)
  refine wpAny_callSpecial?_slot (name := "__next__") ty F.slot_zip_next ?_
  refine wpAny_call_entry F.slot_zip_next ty F.entry_zip_next ?_ (F.args_zip_next_1 (.ref z))
  refine zipS_end hh D z0 t0 o0 p0 q0 l0 m0 hx hy fun h' e same ex => ?_
  obtain ⟨o, g, c⟩ := ex
  refine wpAny_bind (wpAny_isInstance (b := true) (T := "StopIteration") ⟨o, g, c⟩ isSubtype_stop ?_)
  exact wpAny_pure (k h' same)
theorem goS {elts : List Expr} {x1} {pos : Pos} {z TI TO T : Addr} {Q : Unit → Shared → Prop} (z0 : ZipS s.heap z TI TO (rawInt T)) (k : ∀ h', ZipS h' z TI TO .none → Heap.SameBut z s.heap h' → Q () { s with heap := h' }) :
    wpAny (model prog w) A (letOwnedTupleGo (.Tuple elts x1 pos) (.ref z) (.ref T)) Q E s := by
  unfold letOwnedTupleGo
  apply wpAny_bind
  apply wpAny_load z0
  show wpAny _ _ (if (["enumerate", "zip", "dict_itemiterator", "dict_reverseitemiterator",
      "odict_iterator", "itertools.zip_longest", "itertools.pairwise"].contains "zip" &&
      (#[rawInt T, .bool false, .bool true, .ref TI, .ref TO] : Array Value)[0]? == some (rawInt T)) = true then _ else _) Q E s
  rw [if_pos (by simp)]
  apply wpAny_bind
  apply wpAny_rule
  show wpAny _ _ (setField (.ref z) 0 .none) Q E s
  exact wpAny_setField_rec z0 (by simp) fun h' z1 same => k h' z1 same
theorem iterS {z TI TO : Addr} {f0 : Value} {Q : Value → Shared → Prop} (z0 : ZipS s.heap z TI TO f0) (k : Q (.ref z) s) : wpAny (model prog w) A (pyIter (.ref z)) Q E s := by
  have ty : s.TypeIs (.ref z) "zip" := ⟨_, z0, rfl⟩
  refine wpAny_pyIter_slot ty F.slot_zip_iter ?_
  refine wpAny_call_entry F.slot_zip_iter ty F.entry_zip_iter ?_ (F.args_zip_iter_1 (.ref z))
  show wpAny _ _ (ret (.ref z)) _ _ s
  refine wpAny_pure ⟨_, rfl, ?_⟩
  exact ⟨"zip", _, ty, F.slot_zip_next.lookup, k⟩
end
end PySem
namespace L2
open PySem PySem.Spec PyProof.Rows
/-- two lists side by side, ended together -/
def ItS (K : PySem.W.Frag) (a b : Addr) : It :=
  { Itz K a b with stop := fun i H => ∃ xs ys : List V, SqL K H a xs ∧ SqL K H b ys ∧ xs.length ≤ i ∧ ys.length ≤ i }
theorem five {c z TI TO p q : Addr} (h : c ∈ [z, TI, TO, p, q]) : c = z ∨ c = TI ∨ c = TO ∨ c = p ∨ c = q := by simpa using h
theorem turnS {P : Program} {w : World} {K : PySem.W.Frag} {elts : List Expr} {kk : Nat} {tpos : Pos} {a b z TI TO p q : Addr} (D : ZipApart z TI TO p q a b) :
    Turn P w K (.Tuple elts kk tpos) (ItS K a b) [z, TI, TO, p, q] z (fun i h => ZipS h z TI TO .none ∧ IsPair h TI (.ref p) (.ref q) ∧ (∃ x y, IsPair h TO x y) ∧ h.IsListIter p a i ∧ h.IsListIter q b i) where
  mem := List.mem_cons_self
  obj := fun i h t c hc => by
    obtain ⟨g1, g2, ⟨x, y, g3⟩, ⟨o4, g4, _, d4⟩, ⟨o5, g5, _, d5⟩⟩ := t
    rcases five hc with rfl | rfl | rfl | rfl | rfl
    · exact ⟨_, g1, fun v e => nomatch e⟩
    · exact ⟨_, g2, fun v e => nomatch e⟩
    · exact ⟨_, g3, fun v e => nomatch e⟩
    · exact ⟨o4, g4, fun v e => by rw [d4] at e; cases e⟩
    · exact ⟨o5, g5, fun v e => by rw [d5] at e; cases e⟩
  keep := fun i h h' t k => by
    obtain ⟨g1, g2, ⟨x, y, g3⟩, g4, g5⟩ := t
    exact ⟨k _ (by simp) _ g1, k _ (by simp) _ g2, ⟨x, y, k _ (by simp) _ g3⟩, g4.at fun o e => k _ (by simp) o e, g5.at fun o e => k _ (by simp) o e⟩
  item := by
    intro X eP ew eK calm i pins s σ H E I far t go
    subst eP ew eK
    obtain ⟨g1, g2, ⟨x0, y0, g3⟩, g4, g5⟩ := t
    obtain ⟨xs, ys, x, y, sx, sy, hx, hy⟩ := go
    obtain ⟨us, ru, lu, _⟩ := I.list sx
    obtain ⟨ws, rw', lw, _⟩ := I.list sy
    obtain ⟨u, hu, vu⟩ := ru.get hx
    obtain ⟨v, hv, vv⟩ := rw'.get hy
    have zlt : z < s.heap.objs.size := Heap.lt_size g1
    refine nextS_item D g1 g2 g3 g4 g5 lu.isList lw.isList (x := u) (y := v) (by simpa using hu) (by simpa using hv) fun h1 z1 o1 p1 q1 t1 sz kp => ?_
    refine ⟨_, rfl, goS (s := { s with heap := h1 }) z1 fun h2 z2 same => ?_⟩
    have t2 : h2.get? s.heap.objs.size = some { cls := .type "tuple", data := .seq #[u, v] } := (same.2 _ (Nat.ne_of_gt zlt)).trans t1
    have ok : ObjOk X.prog X.w (upd H s.heap.objs.size (.tup [x, y])) h2 s.heap.objs.size (.tup [x, y]) :=
      ⟨by simp [sizeLine], [u, v], .cons vu (.cons vv .nil), ⟨_, t2, rfl, _, rfl⟩⟩
    have frame : ∀ c o, c ∉ [z, TI, TO, p, q] → s.heap.get? c = some o → h2.get? c = some o := fun c o nm g => by
      have n : c ≠ z ∧ c ≠ TI ∧ c ≠ TO ∧ c ≠ p ∧ c ≠ q := by simpa using nm
      exact (same.2 c n.1).trans (kp c o n.1 n.2.2.1 n.2.2.2.1 n.2.2.2.2 g)
    have I2 : Inv X pins σ (upd H s.heap.objs.size (.tup [x, y])) { s with heap := h2 } := I.turnedNew (t' := s.toks) (ch := [z, TI, TO, p, q]) (fun c o nm g => frame c o nm g) far (Nat.le_refl _) ok
    refine ⟨.ref s.heap.objs.size, _, I2, rfl, ?_, ⟨z2, (same.2 _ D.TIz).trans (kp _ _ D.TIz D.TITO D.TIi1 D.TIi2 g2), ⟨u, v, (same.2 _ D.TOz).trans o1⟩, p1.at fun o g => (same.2 _ D.i1z).trans g, q1.at fun o g => (same.2 _ D.i2z).trans g⟩, fun c hc => ?_⟩
    · exact ⟨_, x, y, rfl, I.hok.fresh (Nat.le_refl _), rfl, fun l hl => by rw [I.list_inj hl sx]; exact hx, fun l hl => by rw [I.list_inj hl sy]; exact hy⟩
    · have lt : c < s.heap.objs.size := by
        obtain ⟨_, e4, _⟩ := g4
        obtain ⟨_, e5, _⟩ := g5
        rcases five hc with rfl | rfl | rfl | rfl | rfl
        · exact zlt
        · exact Heap.lt_size g2
        · exact Heap.lt_size g3
        · exact Heap.lt_size e4
        · exact Heap.lt_size e5
      rw [upd_ne (Nat.ne_of_lt lt)]
      exact (far c hc).1
  done := by
    intro X eP ew eK calm i pins s σ H E I far t st
    subst eP ew eK
    obtain ⟨g1, g2, ⟨x0, y0, g3⟩, g4, g5⟩ := t
    obtain ⟨xs, ys, sx, sy, ex, ey⟩ := st
    obtain ⟨us, ru, lu, _⟩ := I.list sx
    obtain ⟨ws, rw', lw, _⟩ := I.list sy
    have l1 := ru.length
    have l2 := rw'.length
    refine nextS_end (I.ok.hd calm) D g1 g2 g3 g4 g5 lu.isList lw.isList (by simp; omega) (by simp; omega) fun h1 kp => ⟨rfl, ?_⟩
    refine I.turnedL (t' := s.toks) (ch := [z, TI, TO, p, q]) (fun c o nm g => ?_) far
    have n : c ≠ z ∧ c ≠ TI ∧ c ≠ TO ∧ c ≠ p ∧ c ≠ q := by simpa using nm
    exact kp c o n.1 n.2.2.1 n.2.2.2.1 n.2.2.2.2 g
  self := fun A i s Q E t k => iterS t.1 k
end L2

namespace PySem
namespace F
theorem typeS (a b v : Value) : checkTypeCall "zip" ⟨[a, b], [(("strict" : Str), v)]⟩ = pure () := by kernel_rfl
theorem newS (a b v : Value) : checkBuiltinCall "zip.__new__" ⟨[.type "zip", a, b], [(("strict" : Str), v)]⟩ = pure () := by kernel_rfl
theorem objS (obj a b v : Value) : argsOk "object.__init__" ⟨[obj, a, b], [(("strict" : Str), v)]⟩ := by
  unfold argsOk
  kernel_rfl
end F
abbrev zipHS (h : Heap) (l m : Addr) : Heap := (zipH4 h l m).push { cls := .type "zip", data := .fields #[.none, .bool false, .bool true, .ref (zipH2 h l m).objs.size, .ref (zipH3 h l m).objs.size] }
set_option maxHeartbeats 1000000 in
theorem madeS (l m : Addr) (xs ys : Array Value) :
    Meets (Builtin.«zip.__new__» ⟨[.type "zip", .ref l, .ref m], [(("strict" : Str), .bool true)]⟩) (fun _ R s => s.heap.IsList l xs ∧ s.heap.IsList m ys ∧
      R (.ok (.ret (.ref (zipH4 s.heap l m).objs.size))) { s with heap := zipHS s.heap l m }) :=
  .of_wp fun prog w A R s h => by
    obtain ⟨hp, g, d, tk, os⟩ := s
    obtain ⟨a1, a2, k⟩ := h
    have sub := sub_zip
    have b1 : Heap.IsList (Shared.heap ⟨hp, g, d, tk, os⟩) l xs := a1
    have b2 : Heap.IsList (Shared.heap ⟨hp.push { cls := .type "list_iterator", data := .fields #[.ref l, .int 0 0] }, g, d, tk, os⟩) m ys := Heap.IsList.push a2 _
    wp_walk using wpAny_pyIter_list b1, wpAny_pyIter_list b2
    exact ⟨_, rfl, k⟩
section
variable {prog : Program} {w : World} {A : Around} {E : Value → Shared → Prop} {s : Shared}
theorem callS {l m : Addr} {xs ys : Array Value} {Q : Value → Shared → Prop} (a1 : s.heap.IsList l xs) (a2 : s.heap.IsList m ys)
    (k : ∀ h', ZipS h' (s.heap.objs.size + 4) (s.heap.objs.size + 2) (s.heap.objs.size + 3) .none → IsPair h' (s.heap.objs.size + 2) (.ref s.heap.objs.size) (.ref (s.heap.objs.size + 1)) →
      IsPair h' (s.heap.objs.size + 3) .none .none → h'.IsListIter s.heap.objs.size l 0 → h'.IsListIter (s.heap.objs.size + 1) m 0 → h'.objs.size = s.heap.objs.size + 5 →
      (∀ c o, s.heap.get? c = some o → h'.get? c = some o) → Q (.ref (s.heap.objs.size + 4)) { s with heap := h' }) :
    wpAny (model prog w) A (call (.type "zip") [.ref l, .ref m] [(("strict" : Str), .bool true)]) Q E s := by
  refine callType_newKw F.called_zip (by decide) (F.typeS _ _ _) (F.newS _ _ _) (fun obj => F.objS obj _ _ _) F.entry_zip_new (madeS l m xs ys) ⟨a1, a2, ?_⟩
  have e1 : (zipH1 s.heap l).objs.size = s.heap.objs.size + 1 := Heap.size_push ..
  have e2 : (zipH2 s.heap l m).objs.size = s.heap.objs.size + 2 := by rw [Heap.size_push, e1]
  have e3 : (zipH3 s.heap l m).objs.size = s.heap.objs.size + 3 := by rw [Heap.size_push, e2]
  have e4 : (zipH4 s.heap l m).objs.size = s.heap.objs.size + 4 := by rw [Heap.size_push, e3]
  have e5 : (zipHS s.heap l m).objs.size = s.heap.objs.size + 5 := by rw [Heap.size_push, e4]
  have up : ∀ {c o}, (zipH4 s.heap l m).get? c = some o → (zipHS s.heap l m).get? c = some o := fun g => Heap.get?_push_of_some _ g
  have up3 : ∀ {c o}, (zipH3 s.heap l m).get? c = some o → (zipHS s.heap l m).get? c = some o := fun g => up (Heap.get?_push_of_some _ g)
  have up2 : ∀ {c o}, (zipH2 s.heap l m).get? c = some o → (zipHS s.heap l m).get? c = some o := fun g => up3 (Heap.get?_push_of_some _ g)
  have up1 : ∀ {c o}, (zipH1 s.heap l).get? c = some o → (zipHS s.heap l m).get? c = some o := fun g => up2 (Heap.get?_push_of_some _ g)
  have g5 : (zipHS s.heap l m).get? (zipH4 s.heap l m).objs.size = some _ := Heap.get?_push_size _ rfl
  have g4 : (zipHS s.heap l m).get? (zipH3 s.heap l m).objs.size = some _ := up (Heap.get?_push_size _ rfl)
  have g3 : (zipHS s.heap l m).get? (zipH2 s.heap l m).objs.size = some _ := up3 (Heap.get?_push_size _ rfl)
  have g2 : (zipHS s.heap l m).get? (zipH1 s.heap l).objs.size = some _ := up2 (Heap.get?_push_size _ rfl)
  have g1 : (zipHS s.heap l m).get? s.heap.objs.size = some _ := up1 (Heap.get?_push_size _ rfl)
  show _ ∧ _
  rw [e2, e3, e4] at g5
  rw [e1, e2] at g3
  rw [e3] at g4
  rw [e1] at g2
  rw [e4]
  exact ⟨⟨_, g5, rfl⟩, k _ g5 g3 g4 ⟨_, g1, rfl, rfl⟩ ⟨_, g2, rfl, rfl⟩ e5 fun c o g => up1 (Heap.get?_push_of_some _ g)⟩
end
end PySem
namespace DL
open PySem L2 PySem.Spec PyProof.Rows PySem.SeqAt
def iZipS (K : PySem.W.Frag) (ta : TA) : TI := fun σ H R => ta σ H fun vs H1 => ∃ a b xs ys, vs = [.ref a, .ref b] ∧ SqL K H1 a xs ∧ SqL K H1 b ys ∧ R (ItS K a b) H1
theorem pi_zipS {X : Cx} {e e2 : Expr} {ta : TA} {p pos tpos kp cp : Pos} {c0 : Nat} {elts : List Expr} {kk : Nat} (hg : Gl X "zip") (hm : X.mg "zip" = none) (ha : PA X [e, e2] ta)
    (hs : backTo pos (starEach [e, e2] X.env) = (false, eval e X.env) :: backTo pos (starEach [e2] X.env)) (hpl : (backTo pos (starEach [e, e2] X.env)).any (·.1) = false) :
    PI X (.Tuple elts kk tpos) (.Call (.Name "zip" p) [e, e2] [⟨some "strict", .Constant (.bool true) c0 cp, kp⟩] pos) (iZipS X.K ta) := by
  refine ⟨fun pins s σ H R I h => ?_⟩
  refine wpAny_Call_Name_kw (ld_blt I hg hm PyProof.Rows.boot_zip (callWith_typeKw hpl (by rfl) ?_))
  rw [hs]
  refine evalArgs_kwB (by rfl) ?_
  rw [← hs]
  refine thn (ha.run pos pins s σ H _ I h) fun us s1 ⟨vs, H1, I1, r1, q1⟩ => ?_
  refine kws_cons (wpAny_pure (kws_nil ?_))
  obtain ⟨a, b, xs, ys, ex, sx, sy, q⟩ := q1
  subst ex
  cases r1 with
  | cons r rr =>
    cases rr with
    | cons r' rr =>
      cases rr
      cases r
      cases r'
      obtain ⟨us, ru, lu, _⟩ := I1.list sx
      obtain ⟨ws, rw', lw, _⟩ := I1.list sy
      show wpAny _ _ (call (.type "zip") [.ref a, .ref b] [(("strict" : Str), .bool true)]) _ _ _
      refine callS lu.isList lw.isList fun h' z1 t1 o1 p1 q1 _ kp => iterS z1 ?_
      refine ⟨s1.heap.objs.size + 4, [s1.heap.objs.size + 4, s1.heap.objs.size + 2, s1.heap.objs.size + 3, s1.heap.objs.size, s1.heap.objs.size + 1], _, _, H1, rfl, I1.kept (t' := s1.toks) kp,
        turnS (PySem.W.ktu_apart s1.heap.objs.size a b lu.lt lw.lt), ⟨z1, t1, ⟨_, _, o1⟩, p1, q1⟩, fun c hc => ?_, q⟩
      have le : s1.heap.objs.size ≤ c := by
        rcases five hc with w | w | w | w | w <;> rw [w] <;> first | exact Nat.le_refl _ | exact Nat.le_add_right _ _
      exact I1.fpOk le (I1.hok.fresh le)
theorem its_ok {n : Nm} {F : Hp} {p q : Addr} {xs ys : List V} {l m : List D} (h : SqL n.K F p xs) (s : Rps n F l xs) (h' : SqL n.K F q ys) (s' : Rps n F m ys) (e : l.length = m.length) : ItOk n (ItS n.K p q) F (zipL l m) where
  go := (itz_ok h s h' s').go
  yld := (itz_ok h s h' s').yld
  stop := fun F1 H1 i x1 x2 hi => by
    rw [zipL_len] at hi
    exact ⟨xs, ys, x2.sqL (x1.sqL h), x2.sqL (x1.sqL h'), by rw [s.length]; omega, by rw [s'.length]; omega⟩
/-- zip(a, b, strict=True): lists of one length -/
def wZipS (f g : DE) : DI := fun S R => f S fun d S1 => g S1 fun e S2 => onLS (fun l => onLS (fun m => l.length = m.length ∧ R (zipL l m) S2) e) d
theorem ji_zipS {X : Cx} {z : Z} {a b : Expr} {f g : DE} {p pos tpos kp cp : Pos} {c0 kk : Nat} {elts : List Expr} (hz : z.n.K = X.K) (hg : Gl X "zip") (hm : X.mg "zip" = none) (h : JE X z a f) (k : JE X z b g)
    (hs : starEach [a, b] X.env = (false, eval a X.env) :: starEach [b] X.env := by rfl) (hs2 : starEach [b] X.env = [(false, eval b X.env)] := by rfl)
    (hs3 : backTo pos (starEach [a, b] X.env) = (false, eval a X.env) :: backTo pos (starEach [b] X.env) := by rfl) (hpl : (backTo pos (starEach [a, b] X.env)).any (·.1) = false := by rfl) :
    JI X z (.Tuple elts kk tpos) (.Call (.Name "zip" p) [a, b] [⟨some "strict", .Constant (.bool true) c0 cp, kp⟩] pos) (wZipS f g) :=
  JI.of (pi_zipS hg hm (pa_cons h (pa_cons k pa_nil hs2) hs) hs3 hpl) fun F σ H S Rw r hf => tE.use r hf fun v H1 F1 S1 d x1 r1 h1 q => tE.use r1 q fun w H2 F2 S2 e x2 r2 h2 q2 => by
    obtain ⟨l, hd, q3⟩ := onLS.get q2
    obtain ⟨m, he, el, q4⟩ := onLS.get q3
    obtain ⟨c, xs, rfl, k1, s1⟩ := (h1.mono x2).list hd
    obtain ⟨c', ys, rfl, k2, s2⟩ := h2.list he
    exact ⟨c, c', xs, ys, rfl, r2.ext.sqL (hz ▸ k1), r2.ext.sqL (hz ▸ k2), F2, S2, _, x1.trans x2, r2, hz ▸ its_ok k1 s1 k2 s2 el, q4⟩
end DL

namespace DL
open PySem L2 PySem.Spec PyProof.Rows PySem.SeqAt PySem.W
section
variable {X : Cx} {z : Z}
def fSortDT (fo : DO) : DF := fun S R => fo S fun o S1 => view S1 (fun d => match d with
  | .dT l => (∀ p ∈ l, ∃ n ns, p.1 = ((n :: ns : List Int)).map Sum.inl) ∧ ∀ l' : List D, l'.Perm (l.map fun p => keyT p.1) → l'.Pairwise leT → R (.lst l') S1
  | _ => False) o
theorem jf_sortDT {a : Expr} {p pos : Pos} {fo : DO} (hc : X.calm = true) (hg : Gl X "sorted") (hm : X.mg "sorted" = none) (ha : JO X z a fo) (hv : bootBuiltins "sorted" = some (.builtin "sorted") := by decide +kernel)
    (he : starEach [a] X.env = (false, eval a X.env) :: starEach [] X.env := by rfl) (hpl : (backTo pos (starEach [] X.env)).any (·.1) = false := by rfl) : JF X z (.Call (.Name "sorted" p) [a] [] pos) (fSortDT fo) :=
  JF.of (pe_callB (cr_sortDT hc) hg hm hv (pa_cons ha pa_nil he) (he := he) (hpl := hpl)) fun F σ H S R r hf => tO.use r hf fun v H1 F1 S1 a1 x1 r1 h1 q1 => by
    obtain ⟨d, rv, q0⟩ := h1.view r1 q1
    cases d with
    | dT l =>
      obtain ⟨hk, q2⟩ := q0
      obtain ⟨c, kvs, rfl, h2, s1⟩ := rv
      have ek : kvs.map (·.1) = l.map (·.1) := s1.keys
      refine ⟨c, kvs, rfl, h2, fun p hp => ?_, fun bs ys p ik pm srt hp => ?_⟩
      · have : p.1 ∈ l.map (·.1) := ek ▸ List.mem_map.mpr ⟨p, hp, rfl⟩
        obtain ⟨p', hp', e⟩ := List.mem_map.mp this
        rw [← e]; exact hk p' hp'
      · have hk2 : Paired (fun (k : TKey) (b : Addr) => H1 b = some (.tup (k.map kV))) (l.map (·.1)) bs := by
          rw [← ek]
          unfold IsKeys at ik
          clear pm ek s1 h2
          induction ik with
          | nil => exact .nil
          | cons h _ ih => exact .cons h ih
        obtain ⟨F', y1, y2, y3, y4⟩ := tups_join hk2 r1.ext
        have r2 := r1.grow y1 y3 (fun _ _ h => h) y2
        obtain ⟨l', pm', s2⟩ := Rps.perm pm y4
        have em : (l.map (·.1)).map keyT = l.map fun p => keyT p.1 := by rw [List.map_map]; rfl
        obtain ⟨r3, fr⟩ := r2.fresh (c := .lst l') (o := .lst ys) hp ⟨_, upd_same, s2⟩
        refine ⟨F', S1, _, p, rfl, x1.trans y1, r3, fr, q2 l' (em ▸ pm') ?_⟩
        refine Rps.pairs (P := fun x y => lexL (tupOf H1 y) (tupOf H1 x) = false) (fun d e x y g1 g2 hlt ns ms ed ee => ?_) s2 srt
        subst ed; subst ee
        obtain ⟨t1, e1, w1, _⟩ := tupOf_rp g1
        obtain ⟨t2, e2, w2, _⟩ := tupOf_rp g2
        subst e1; subst e2
        rw [tupOf_ints (r2.ext.at w1 rfl), tupOf_ints (r2.ext.at w2 rfl)] at hlt
        exact hlt
    | _ => exact q0.elim
/-- xs * n, a new list -/
def fRep (fa fe : DE) : DF := fun S R => fa S fun d S1 => fe S1 fun e S2 => onL (fun l => onI (fun k => -(2 ^ 63) ≤ k ∧ k < 2 ^ 63 ∧ l.length * k.toNat ≤ sizeLine ∧ R (.lst (List.replicate k.toNat l).flatten) S2) e) d
theorem jf_rep {a b : Expr} {pos : Pos} {fa fe : DE} (ha : JE X z a fa) (hb : JE X z b fe) : JF X z (.BinOp a .Mult b pos) (fRep fa fe) :=
  JF.of (pe_op op_rep ha hb) fun F σ H S R r hf => tE.use r hf fun v H1 F1 S1 d x1 r1 h1 q1 => tE.use r1 q1 fun w H2 F2 S2 e x2 r2 h2 q2 => by
    obtain ⟨l, rfl, q3⟩ := onL.get q2
    obtain ⟨k, rfl, k1, k2, k3, q4⟩ := onI.get q3
    obtain ⟨c, xs, rfl, g1, s1⟩ := h1.mono x2
    refine ⟨c, k, xs, rfl, h2, r2.ext.lst g1, k1, k2, by rw [s1.length]; exact k3, fun t ht => ?_⟩
    obtain ⟨r4, fr⟩ := r2.fresh (c := .lst (List.replicate k.toNat l).flatten) (o := .lst (List.replicate k.toNat xs).flatten) ht ⟨_, upd_same, s1.rep _⟩
    exact ⟨F2, S2, _, t, rfl, x1.trans x2, r4, fr, q4⟩
/-- an owned list's part, by a whole number that is not below 0 -/
def rGetL : V → V → Hp → VK → Prop := fun x y H Q => ∃ p xs k v, x = .ref p ∧ y = .int k ∧ H p = some (.lst xs) ∧ 0 ≤ k ∧ xs[k.toNat]? = some v ∧ Q v H
theorem get_list0 : PGet X rGetL := by
  intro pins s σ H o i ov iv Q I ro ri h
  obtain ⟨p, xs, k, v, rfl, rfl, hp, h0, hv, q⟩ := h
  cases ro
  obtain ⟨t, rfl⟩ := ri
  obtain ⟨its, r, pl, hz⟩ := I.list (SqL.of hp)
  obtain ⟨w, ew, rw'⟩ := r.get hv
  have hn := line63
  have hk : k.toNat < xs.length := by
    obtain ⟨h, _⟩ := List.getElem?_eq_some_iff.mp hv
    exact h
  exact PyProof.Rows.getItem_listL (l := its) pl.isList h0 (by omega) ew ⟨v, H, I, rw', q⟩
/-- o[e] op= e2 of an owned list of whole numbers in slot i -/
def dAugL (i : Nat) (f : Int → Int → Int) (fk fv : DE) : DS := fun E S => onOwnL (fun _ => fk S fun e S1 => onI (fun k => onOwnL (fun l => 0 ≤ k ∧ onSome (fun d => onI (fun x => fv S1 fun d2 S2 => onI (fun y => onOwnL (fun l2 => (k.toNat < l2.length ∧ l2.length ≤ sizeLine) ∧ E.nx (setS S2 i (.own (.lst (l2.set k.toNat (.int (f x y))))))) (getS S2 i)) d2) d) l[k.toNat]?) (getS S1 i)) e) (getS S i)
theorem js_augL {o e value : Expr} {pos pos' : Pos} {i : Nat} {op : Operator} {f : Int → Int → Int} {fk fv : DE} (hop : PIp X op (ipI f)) (ho : PE X o (tVar i)) (hk : JE X z e fk) (hv : JE X z value fv)
    (ha : ∀ ov iv new, augStore e ov iv new = (do holding [new, ov, iv] (setItem ov iv new); release [new, ov, iv] []; pure .next) := by intros; rfl) :
    JS X z (.AugAssign (.Subscript o e pos') op value pos) (dAugL i f fk fv) :=
  JS.of (ps_augS ho hk get_list0 hv hop set_list ha) fun F σ H S E r q => by
    obtain ⟨l0, g0, q1⟩ := onOwnL.get q
    have g1 := getS_some g0 (by intro x; cases x)
    obtain ⟨a, e1, f1, n1, c1⟩ := r.sl i _ g1
    refine ⟨.ref a, e1, tE.use r q1 fun w H1 F1 S1 d1 x1 r1 h1 q2 => ?_⟩
    obtain ⟨k, rfl, q3⟩ := onI.get q2
    obtain ⟨l, g2, k0, q4⟩ := onOwnL.get q3
    obtain ⟨d, g3, q5⟩ := onSome.get q4
    obtain ⟨x, rfl, q6⟩ := onI.get q5
    have g4 := getS_some g2 (by intro x; cases x)
    obtain ⟨a', e2, f2, n2, c2⟩ := r1.sl i _ g4
    rw [e1] at e2; cases e2
    obtain ⟨xs, h2, s2⟩ := c2
    obtain ⟨v, hv, rv⟩ := s2.get g3
    refine ⟨a, xs, k, v, rfl, h1, h2, k0, hv, tE.use r1 q6 fun w2 H2 F2 S2 d2 x2 r2 h3 q7 => ?_⟩
    obtain ⟨y, rfl, q8⟩ := onI.get q7
    obtain ⟨l2, g5, ⟨k1, k2⟩, q9⟩ := onOwnL.get q8
    have g6 := getS_some g5 (by intro x; cases x)
    obtain ⟨a', e3, f3, n3, c3⟩ := r2.sl i _ g6
    rw [e1] at e3; cases e3
    obtain ⟨ys, h4, s4⟩ := c3
    have kl : k.toNat < ys.length := by rw [s4.length]; exact k1
    refine ⟨x, y, rv, h3, a, ys, k, k.toNat, rfl, h1, h4, ?_, ?_⟩
    · unfold ixN
      rw [if_pos k0, if_pos (by rw [s4.length]; omega)]
    · exact ⟨F2, _, x1.trans x2, r2.write (c' := .lst (l2.set k.toNat (.int (f x y)))) g6 e1 ⟨_, upd_same, s4.set k.toNat rfl⟩, q9⟩
end
end DL

namespace DL
open PySem L2 PySem.Spec PyProof.Rows PySem.SeqAt PySem.W
section
variable {P : Program} {w : World} {A : Around} {E : Value → Shared → Prop} {s : Shared}
/-- there are few different ones -/
def FewT (ks : List (Addr × List Int)) : Prop := ∀ L : List (Addr × List Int), (∀ p ∈ L, p ∈ ks) → (L.map (·.2)).Nodup → L.length + 1 < 64
/-- one more tuple comes in: what the set has got then -/
theorem got_next {ks L M : List (Addr × List Int)} {j : Nat} {y : Addr × List Int} (g : Got ks j L) (hy : ks[j]? = some y) (old : y.2 ∈ L.map (·.2) → M = L) (new : y.2 ∉ L.map (·.2) → M.Perm (y :: L)) : Got ks (j + 1) M :=
  (Classical.em (y.2 ∈ L.map (·.2))).elim (fun c => old c ▸ g.same hy c) fun c => g.more hy (new c)
/-- a set that stands, told of a later heap -/
theorem setT_on {h1 h2 h0 : Heap} {ks L : List (Addr × List Int)} {S : Addr} {es : Array (Int × Value)} {ep j : Nat} {t : SetTable} (T : SetTR P w h1 S L es ep t) (g : Got ks j L) (there : ∀ q ∈ ks, IsT P w h0 q.2 q.1) (atS : ∀ ob, h1.get? S = some ob → h2.get? S = some ob) (kept : ∀ b ob, h0.get? b = some ob → h2.get? b = some ob) : SetTR P w h2 S L es ep t :=
  T.keep atS fun q hq => isT_keep (there q (List.mem_of_mem_take (g.sub q hq))) kept
/-- what is left to do of the loop from place j on: the bound is on how many different tuples there are -/
theorem set_update_tupsD {It : Addr} {fp wr : List Addr} {G : Array GenState → Array GenState → Prop} {n : Nat} {Pv : Nat → Value → Prop} {At : Nat → Shared → Prop} {Rr : Result → Shared → Prop}
    (wk : WalksS P w A.in1 It fp wr G n Pv At) {S : Addr} (outS : S ∉ fp) {ks : List (Addr × List Int)} (sz : n = ks.length) (few : FewT ks) (each : ∀ j u, Pv j u → ∃ q, ks[j]? = some q ∧ u = .ref q.1)
    {h0 : Heap} (there : ∀ q ∈ ks, IsT P w h0 q.2 q.1) (noS : h0.get? S = none) (noW : ∀ b ∈ wr, h0.get? b = none) (room : A.in1.units < cLine)
    (fin : ∀ s2 L es ep t, Moved (S :: wr) G s s2 → SetTR P w s2.heap S L es ep t → Got ks n L → (∀ b ob, h0.get? b = some ob → s2.heap.get? b = some ob) → Rr (.ok (.ret .none)) s2) :
    ∀ (m j : Nat) (s1 : Shared), j + m = n → At j s1 → (s1 = s ∨ Moved (S :: wr) G s s1) → (∀ b ob, h0.get? b = some ob → s1.heap.get? b = some ob) → (∃ L es ep t, SetTR P w s1.heap S L es ep t ∧ Got ks j L) →
      codeAny (model P w) A (.builtin "set.update.loop" ⟨[.ref S, .ref It], []⟩) Rr s1 := by
  have wS : S ∉ wr := fun z => outS (wk.sub _ z)
  have wider : ∀ {s1 s2 : Shared}, Moved wr G s1 s2 → Moved (S :: wr) G s1 s2 := fun mv => mv.mono fun b hb => List.mem_cons_of_mem _ hb
  have on : ∀ {s1 s2 : Shared}, (s1 = s ∨ Moved (S :: wr) G s s1) → Moved (S :: wr) G s1 s2 → Moved (S :: wr) G s s2 := fun a b => a.elim (fun e => e ▸ b) fun a => Moved.trans wk.gtrans a b
  have still : ∀ {s1 s2 : Shared}, Moved wr G s1 s2 → (∀ b ob, h0.get? b = some ob → s1.heap.get? b = some ob) → ∀ b ob, h0.get? b = some ob → s2.heap.get? b = some ob := fun mv old b ob e =>
    mv.heap b ob (fun z => absurd e (by rw [noW b z]; simp)) (old b ob e)
  intro m
  induction m with
  | zero =>
    rintro j s1 ej at1 mv1 old ⟨L, es, ep, t, T, g⟩
    obtain rfl : j = n := ej
    refine codeAny_builtin F.entry_set_update_loop ?_; rw [Around.under_plainId F.plain_set_update_loop _]
    refine wpAny_bind (m := pyNext (.ref It)) (wk.done s1 _ _ at1 fun s2 mv => ?_)
    exact wpAny_pure (fin s2 L es ep t (on mv1 (wider mv)) (setT_on T g there (fun ob e => mv.heap S ob wS e) (still mv old)) g (still mv old))
  | succ m ih =>
    rintro j s1 ej at1 mv1 old ⟨L, es, ep, t, T, g⟩
    refine codeAny_builtin F.entry_set_update_loop ?_; rw [Around.under_plainId F.plain_set_update_loop _]
    refine wpAny_bind (m := pyNext (.ref It)) (wk.item j s1 _ _ (by omega) at1 fun u s2 hu at2 mv => ?_)
    obtain ⟨q, hq, rfl⟩ := each j u hu
    have old2 := still mv old
    have T2 := setT_on T g there (fun ob e => mv.heap S ob wS e) old2
    have tq : IsT P w s2.heap q.2 q.1 := isT_keep (there q (List.mem_of_getElem? hq)) old2
    refine wpAny_bind (m := holding [Value.ref q.1] (setAdd S (.ref q.1))) (wpAny_holding (wpAny_holding (wpAny_bind (wpAny_pyHash_tuple room tq (add_at (s := { s2 with toks := s2.toks + (q.2.length + 1) }) T2 tq room (few L (fun p hp => List.mem_of_mem_take (g.sub p hp)) T2.nd) fun bb h3 L3 es3 ep3 t3 sb T3 c1 c2 => ?_)))))
    have but : ∀ b ob, b ≠ S → s2.heap.get? b = some ob → h3.get? b = some ob := fun b ob nb e => (sb.2 b nb).trans e
    refine wpAny_pure ⟨plainId_quiet F.plain_set_update_loop _, ih (j + 1) _ (by omega) (wk.frame _ s2 _ _ at2 (Nat.le_add_right _ _) fun b hb ob e => but b ob (fun z => outS (z ▸ hb)) e)
      (.inr (on mv1 ((wider mv).then_heap (Nat.le_add_right _ _) fun b ob hb e => but b ob (fun z => hb (z ▸ List.mem_cons_self)) e))) (fun b ob e => but b ob (fun z => absurd e (by rw [z, noS]; simp)) (old2 b ob e)) ⟨L3, es3, ep3, t3, T3, got_next g hq c1 c2⟩⟩
/-- the new set takes in the list's tuples -/
theorem set_fillT {l S : Addr} {items : Array Value} (ks : List (Addr × List Int)) {h0 : Heap} {R : Result → Shared → Prop} (hh : A.handled = none) (hu : A.units + 8 < cLine) (hl : s.heap.IsList l items) (hit : items.toList = ks.map fun p => Value.ref p.1) (hb : FewT ks)
    (hS : s.heap.get? S = some (set0 w)) (hne : l ≠ S) (hk : ∀ p ∈ ks, IsT P w h0 p.2 p.1) (kp : ∀ b o, h0.get? b = some o → s.heap.get? b = some o) (hS0 : h0.get? S = none) (hsz : h0.objs.size ≤ s.heap.objs.size)
    (h : ∀ (h' : Heap) (tk : Nat) L es ep t, SetTR P w h' S L es ep t → Got ks ks.length L → (∀ b o, h0.get? b = some o → h'.get? b = some o) → R (.ok (.ret .none)) { s with heap := h', toks := tk }) :
    codeAny (model P w) A (.call (.builtin "set.__init__") ⟨[.ref S, .ref l], []⟩) R s := by
  have hT : Shared.TypeIs s (.ref S) "set" := ⟨_, hS, rfl⟩
  refine codeAny_call_builtin PySem.F.called_set.init.plain PySem.F.entry_set_init (check_set_init_1 hT ?_)
  have z : items.size = ks.length := by
    have q := congrArg List.length hit
    rw [Array.length_toList, List.length_map] at q
    exact q
  have hsls := PySem.F.sub_list_set
  have hslf := PySem.F.sub_list_frozenset
  have hnd : (Value.type "list" == Value.type "dict") = false := by decide
  have hl1 := hl
  obtain ⟨⟨ocls, odict, odata, oslots⟩, hol, hcl, nl, hdl⟩ := hl
  simp only at hcl hdl
  subst hcl; subst hdl
  unfold Builtin.«set.__init__» noKeywords Builtin.Frozenset.updateFrom
  generalize hPI : pyIter = PI
  wp_walk
  subst hPI
  refine wpAny_pyIter_list hl1 ?_
  refine wpAny_bind (wpAny_runValue ?_)
  have lS : S < s.heap.objs.size := Heap.lt_size hS
  have ll : l < s.heap.objs.size := Heap.lt_size hol
  have hn0 : h0.get? s.heap.objs.size = none := by
    cases e : h0.get? s.heap.objs.size with
    | none => rfl
    | some o => exact absurd (Heap.lt_size (kp _ _ e)) (Nat.lt_irrefl _)
  refine set_update_tupsD (s := { s with heap := s.heap.push _ }) ((Walks.list (by simp [hh]) _ l (Nat.ne_of_lt ll) items).toS) (ks := ks) (S := S) ?_ z hb (fun j v hv => ?_) (h0 := h0) hk hS0 (fun b hb => ?_) ?_ (fun s' L es ep t hm hR hg hkp => ?_) items.size 0 _ (Nat.zero_add _) ⟨⟨_, Heap.get?_push_size _ rfl, rfl, rfl⟩, hl1.push _⟩ (.inl rfl)
    (fun b o e => Heap.get?_push_of_some _ (kp b o e)) ⟨[], #[], 0, _, setTR_fresh (w := w) (Heap.get?_push_of_some _ hS), Got.zero ks⟩
  · simp only [List.mem_cons, List.not_mem_nil, or_false, not_or]
    exact ⟨Nat.ne_of_lt lS, fun e => hne e.symm⟩
  · have at_ : (ks.map fun p => Value.ref p.1)[j]? = some v := by rw [← hit, Array.getElem?_toList]; exact hv
    rw [List.getElem?_map] at at_
    obtain ⟨q, e1, e2⟩ := Option.map_eq_some_iff.mp at_
    exact ⟨q, e1, e2.symm⟩
  · rw [show b = s.heap.objs.size by simpa using hb]
    exact hn0
  · first | (show A.units + 1 < cLine; omega) | (show A.units + 2 < cLine; omega) | (show A.units + 3 < cLine; omega) | (show A.units + 4 < cLine; omega) | (show A.units < cLine; omega)
  · rcases s' with ⟨h', g', d', tk', os'⟩
    have e1 : g' = s.gens ∧ d' = s.drawn ∧ os' = s.os := ⟨hm.gens, hm.drawn, hm.os⟩
    rcases e1 with ⟨rfl, rfl, rfl⟩
    exact wpAny_pure (wpAny_pure (h h' tk' L es ep t hR (by rw [← z]; exact hg) hkp))
/-- set(xs), xs a list of tuples -/
theorem set_of_listT {l : Addr} {items : Array Value} (ks : List (Addr × List Int)) {Q : Value → Shared → Prop} (hh : A.handled = none) (hu : A.units + 16 < cLine) (hl : s.heap.IsList l items) (hit : items.toList = ks.map fun p => Value.ref p.1) (hb : FewT ks)
    (hk : ∀ p ∈ ks, IsT P w s.heap p.2 p.1)
    (h : ∀ (h' : Heap) (tk : Nat) L es ep t, SetTR P w h' s.heap.objs.size L es ep t → Got ks ks.length L → (∀ b o, s.heap.get? b = some o → h'.get? b = some o) → Q (.ref s.heap.objs.size) { s with heap := h', toks := tk }) :
    wpAny (model P w) A (call (.type "set") [.ref l]) Q E s := by
  have hlt : l < s.heap.objs.size := by
    obtain ⟨o, ho, _⟩ := hl
    exact Heap.lt_size ho
  refine type_halves (Q₁ := fun obj s₁ => obj = .ref s.heap.objs.size ∧ s₁ = { s with heap := s.heap.push (set0 w) }) PySem.F.called_set (PySem.F.typeCall_set_1 _) (code_set_led1 (.ref l) ⟨rfl, rfl⟩) ?_
  rintro obj s₁ ⟨rfl, rfl⟩
  have hS : (s.heap.push (set0 w)).get? s.heap.objs.size = some (set0 w) := Heap.get?_push_size _ rfl
  refine ⟨⟨_, hS, rfl⟩, set_fillT (h0 := s.heap) ks (by simp [hh]) (by show A.units + 1 + 8 < cLine; omega) (hl.push _) hit hb hS (Nat.ne_of_lt hlt) hk (fun b o e => Heap.get?_push_of_some _ e) ?_ (by rw [size_push']; omega) fun h' tk L es ep t hR hg k => ⟨rfl, h h' tk L es ep t hR hg k⟩⟩
  cases e : s.heap.get? s.heap.objs.size with
  | none => rfl
  | some o => exact absurd (Heap.lt_size e) (Nat.lt_irrefl _)
end
section
variable {X : Cx}
def rSetOfTD (K : PySem.W.Frag) (P : Program) (w : World) : List V → Hp → VK → Prop := fun xs H Q => ∃ (l : Addr) (ks : List (Addr × List Int)), xs = [V.ref l] ∧ SqL K H l (ks.map fun p => V.ref p.1) ∧ (∀ p ∈ ks, SqT K H p.1 (p.2.map V.int)) ∧ FewT ks ∧
  ∀ a L, H a = none → (∀ p ∈ L, p ∈ ks) → (∀ p ∈ ks, p.2 ∈ L.map (·.2)) → Q (.ref a) (upd H a (SetTO P w a L))
theorem cr_setOfTD (hc : X.calm = true) (hu : X.A.units + 64 < cLine) : CallR X (.type "set") (rSetOfTD X.K X.prog X.w) := fun pins s σ H xs us Q I r h => by
  obtain ⟨l, ks, rfl, hl, hk, hf, q⟩ := h
  obtain ⟨items, rv, pl, _⟩ := I.list hl
  rw [Vals.ref1 r]
  have no : H s.heap.objs.size = none := I.hok.fresh (Nat.le_refl _)
  have eq : items.toArray.toList = ks.map fun p => Value.ref p.1 := by rw [List.toList_toArray]; exact refs_of_vals rv
  refine set_of_listT (P := X.prog) (w := X.w) ks (I.ok.hd hc) (by omega) pl.isList eq hf (fun p hp => I.isT (hk p hp)) fun h' tk L es ep t T g kept => ⟨.ref s.heap.objs.size, _, I.laid (t' := tk) kept (Nat.le_refl _) (setTO_new T.t0), rfl, q _ L no (fun p hp => List.take_subset _ _ (g.sub p hp)) fun p hp => g.all p ?_⟩
  rwa [List.take_length]
end
/-- sorted(set(x)), x a list of tuples of d whole numbers in [0, B) -/
abbrev tD (c : List Int) : D := .tup (c.map D.int)
structure ScT (ks : List (List Int)) (d : Nat) (B : Int) : Prop where
  d1 : 1 ≤ d
  len : ∀ c ∈ ks, c.length = d
  bd : ∀ c ∈ ks, TS.Bd B c
  few : ∀ K : List (List Int), (∀ c ∈ K, c ∈ ks) → K.Nodup → K.length + 1 < 64
def dSortSetT (fo : DO) : DE := fun S R => fo S fun o S1 => view S1 (onLS fun l => ∃ (ks : List (List Int)) (d : Nat) (B : Int), l = ks.map tD ∧ ScT ks d B ∧
  ∀ K : List (List Int), K.Nodup → (∀ c, c ∈ K ↔ c ∈ ks) → K.Pairwise (fun a b => TS.code B a ≤ TS.code B b) → R (.lst (K.map tD)) S1) o
/-- tuples that are told, with where they lie -/
theorem tups_at {n : Nm} {F : Hp} : ∀ {ks : List (List Int)} {xs : List V}, Rps n F (ks.map tD) xs → ∃ qs : List (Addr × List Int), xs = qs.map (fun p => V.ref p.1) ∧ qs.map (·.2) = ks ∧ ∀ p ∈ qs, F p.1 = some (.tup (p.2.map V.int))
  | [], xs, h => ⟨[], h, rfl, fun p hp => by cases hp⟩
  | c :: ks, xs, ⟨v, r, e, h1, h2⟩ => by
    obtain ⟨t, e1, h3, _⟩ := tupOf_rp h1
    obtain ⟨qs, e2, e3, h4⟩ := tups_at (ks := ks) h2
    subst e; subst e1; subst e2
    refine ⟨(t, c) :: qs, rfl, by rw [List.map_cons, e3], fun p hp => ?_⟩
    rcases List.mem_cons.mp hp with rfl | hp
    · exact h3
    · exact h4 p hp
theorem tups_back {n : Nm} {F : Hp} : ∀ {qs : List (Addr × List Int)}, (∀ p ∈ qs, F p.1 = some (.tup (p.2.map V.int))) → Rps n F ((qs.map (·.2)).map tD) (qs.map fun p => V.ref p.1)
  | [], _ => rfl
  | p :: qs, h => ⟨_, _, rfl, ⟨p.1, _, rfl, h p (List.mem_cons_self ..), Rps.of_ints p.2⟩, tups_back fun q hq => h q (List.mem_cons_of_mem _ hq)⟩
section
variable {X : Cx} {z : Z} {a : Expr} {p p2 pos pos2 : Pos} {fo : DO}
theorem je_sortSetT (hz : z.n.K = X.K) (hc : X.calm = true) (hu : X.A.units + 64 < cLine) (hg : Gl X "sorted") (hm : X.mg "sorted" = none) (hg2 : Gl X "set") (hm2 : X.mg "set" = none) (ha : JO X z a fo) (hv : bootBuiltins "sorted" = some (.builtin "sorted") := by decide +kernel) (hv2 : bootBuiltins "set" = some (.type "set") := by decide +kernel)
    (he2 : starEach [a] X.env = (false, eval a X.env) :: starEach [] X.env := by rfl) (hpl2 : (backTo pos2 (starEach [] X.env)).any (·.1) = false := by rfl)
    (he : starEach [.Call (.Name "set" p2) [a] [] pos2] X.env = (false, eval (.Call (.Name "set" p2) [a] [] pos2) X.env) :: starEach [] X.env := by rfl) (hpl : (backTo pos (starEach [] X.env)).any (·.1) = false := by rfl) :
    JE X z (.Call (.Name "sorted" p) [.Call (.Name "set" p2) [a] [] pos2] [] pos) (dSortSetT fo) :=
  JE.of (pe_callB (L2.cr_sortedT hc) hg hm hv (pa_cons (pe_callTy (cr_setOfTD hc hu) hg2 hm2 hv2 (pa_cons ha pa_nil he2) (he := he2) (hpl := hpl2)) pa_nil he) (he := he) (hpl := hpl)) fun F σ H S R r hf => tO.use r hf fun v H1 F1 S1 a1 x1 r1 h1 q1 => by
    obtain ⟨d, rv, q0⟩ := h1.view r1 q1
    obtain ⟨l, hd, ks, dd, B, rfl, sc, q4⟩ := onLS.get q0
    obtain ⟨b, xs, rfl, g1, s1⟩ := rv.list r1.ext hd
    obtain ⟨qs, rfl, e2, at1⟩ := tups_at s1
    have ink : ∀ p ∈ qs, p.2 ∈ ks := fun p hp => e2 ▸ List.mem_map.mpr ⟨p, hp, rfl⟩
    refine ⟨b, qs, rfl, hz ▸ g1, fun p hp => SqT.of (r1.ext.at (at1 p hp) rfl), fun L hL nd => ?_, fun p L hn hL1 hL2 => ?_⟩
    · have := sc.few (L.map (·.2)) (fun c hc => by
        obtain ⟨p, hp, rfl⟩ := List.mem_map.mp hc
        exact ink p (hL p hp)) nd
      rw [List.length_map] at this
      exact this
    have r2 := r1.layF (SetTO X.prog X.w p L) hn
    have atL : ∀ q ∈ L, F1 q.1 = some (.tup (q.2.map V.int)) := fun q hq => at1 q (hL1 q hq)
    refine ⟨p, L, dd, B, rfl, upd_same, fun q hq => SqT.of (r2.ext.at (atL q hq) rfl), sc.d1, fun q hq => ⟨sc.len _ (ink q (hL1 q hq)), sc.bd _ (ink q (hL1 q hq))⟩, fun L' t pm nd few pw hn2 => ?_⟩
    have m1 : ∀ q ∈ L', q ∈ L := fun q hq => pm.mem_iff.mp hq
    have s2 := tups_back (n := z.n) (qs := L') fun q hq => atL q (m1 q hq)
    exact ⟨_, S1, .lst ((L'.map (·.2)).map tD), x1.trans (Ext.new (r2.ext.free hn2)), r2.lay _ hn2, ⟨t, _, rfl, upd_same, s2.mono (Ext.new (r2.ext.free hn2))⟩, q4 _ nd (fun c => ⟨fun w => by
      obtain ⟨q, hq, rfl⟩ := List.mem_map.mp w
      exact ink q (hL1 q (m1 q hq)), fun w => by
      rw [← e2] at w
      obtain ⟨q, hq, rfl⟩ := List.mem_map.mp w
      obtain ⟨q', hq', e⟩ := List.mem_map.mp (hL2 q hq)
      exact List.mem_map.mpr ⟨q', pm.mem_iff.mpr hq', e⟩⟩) (List.pairwise_map.mpr pw)⟩
end
end DL

namespace DL
open PySem L2 PySem.Spec PyProof.Rows PySem.SeqAt PySem.W
section
variable {prog : Program} {w : World} {A : Around} {E : Value → Shared → Prop} {s : Shared}
theorem eq_empty {a b : Addr} {es : Array DictEntry} {Q : Value → Shared → Prop} (ha : (a == sysModules) = false) (hb : (b == sysModules) = false) (da : RawD s a es) (db : RawD s b #[]) (hu : A.units < cLine) (h : Q (.bool (es.size == 0)) s) :
    wpAny (model prog w) A (compareOp .Eq (.ref a) (.ref b)) Q E s := by
  refine wpAny_richCompare_same_room (op := .Eq) da.typeIs db.typeIs PySem.F.slot_dict_eq (wpAny_call_entry PySem.F.slot_dict_eq da.typeIs PySem.F.entry_dict_eq ?_ (PySem.F.args_dict_eq_2 _ _)) hu
  show wpAny _ _ (Builtin.Dict.dictSlotArgs "__eq__" ⟨[.ref a, .ref b], []⟩ >>= _) _ _ s
  refine wpAny_bind ?_
  unfold Builtin.Dict.dictSlotArgs
  refine wpAny_bind (wpAny_notOrdered_dict da.typeIs ?_)
  show wpAny _ _ (pure (Value.ref a, Value.ref b)) _ _ s
  refine wpAny_pure ?_
  refine wpAny_bind (wpAny_isInstance (T := "dict") db.typeIs PySem.F.sub_dict_dict ?_)
  simp only [Bool.not_true, Bool.false_eq_true, if_false]
  refine wpAny_bind (wpAny_pure (wpAny_bind (wpAny_pure ?_)))
  refine wpAny_bind (samePairs_empty ha hb da db ?_)
  refine wpAny_pure ⟨_, rfl, ?_, ?_⟩
  · exact fun x => nomatch x
  · simpa using h
end
def rEqE : R2 := fun x y H Q => ∃ a b ws, x = .ref a ∧ y = .ref b ∧ Rd H a (.dT ws) ∧ Rd H b (.dK []) ∧ Q (.bl (ws.isEmpty)) H
theorem op_eqE {X : Cx} (hu : X.A.units < cLine) : OpR X (compareOp .Eq) rEqE := by
  intro pins s σ H x y v u Q I rx ry h
  obtain ⟨a, b, ws, rfl, rfl, ea, eb, q⟩ := h
  obtain rfl : v = Value.ref a := rx
  obtain rfl : u = Value.ref b := ry
  obtain ⟨_, ya, xs, ra, oa, es, ep, h1, h2, h3, h4, _⟩ := (show ObjOk X.prog X.w H s.heap a (.dT ws) from rd_ok I ea)
  obtain ⟨_, yb, vb, rb, ob, es', ep', k1, k2, k3, k4, k5, _⟩ := (show ObjOk X.prog X.w H s.heap b (.dK []) from rd_ok I eb)
  have e0 : es' = #[] := by
    have hv : vb = [] := by cases rb; rfl
    subst hv
    have := k5.length
    exact Array.eq_empty_of_size_eq_zero (by simpa using this)
  subst e0
  have el : es.size = ws.length := by rw [← Array.length_toList, h4, List.length_map, ← ra.length]
  exact eq_empty (es := es) ya yb ⟨oa, ep, h1, h2, h3⟩ ⟨ob, ep', k1, k2, k3⟩ hu (fin_bl I q (by rw [el]; cases ws <;> simp))
/-- a dict by tuples == {} -/
def gEqE : G2 := fun d e k => match d, e with
  | .dT l, .dK [] => k (.bl (l.isEmpty))
  | _, _ => False
theorem bd_eqE {X : Cx} {z : Z} (hz : z.n.K = X.K) (hu : X.A.units + 64 < cLine) : BinD X z (compareOp .Eq) gEqE :=
  ⟨⟨_, op_eqE (by omega), fun x y H Q Q' k h => by
    obtain ⟨a, b, ws, h1, h2, h3, h4, q⟩ := h
    exact ⟨a, b, ws, h1, h2, h3, h4, k _ _ q⟩, ⟨fun {F σ H S x y d e k} r r1 r2 q => by
    cases d with
    | dT l =>
      cases e with
      | dK m =>
        cases m with
        | nil =>
          obtain ⟨a, ws, rfl, ha, s1⟩ := r1
          obtain ⟨b, ls, rfl, hb, s2⟩ := r2
          obtain rfl : ls = [] := s2
          refine ⟨a, b, ws, rfl, rfl, ha, hb, F, .bl (l.isEmpty), Ext.refl, r, ?_, q⟩
          have : ws.isEmpty = l.isEmpty := by
            cases l with
            | nil => rw [show ws = [] from s1]; rfl
            | cons p l =>
              obtain ⟨k, d⟩ := p
              obtain ⟨v, r, e, _⟩ := s1
              rw [e]; rfl
          rw [this]
        | cons p m => exact q.elim
      | _ => exact q.elim
    | _ => exact q.elim⟩⟩⟩
end DL

namespace DL
open PySem L2
/-- return (e, x), x an owned list: the pair holds the list that nobody else has -/
def dRetTwo (f : DE) (i : Nat) : DS := fun E S => f S fun d S1 => match getS S1 i with
  | .own (.lst l) => E.rt (.two d l) (setS S1 i .free)
  | _ => False
theorem js_retTwo {X : Cx} {z : Z} {e1 e2 : Expr} {x1 : Nat} {tp pos : Pos} {i : Nat} {f : DE} (he : JE X z e1 f) (hv : PE X e2 (tVar i)) (p : z.pr i = none) (s1 : starEach [e1, e2] X.env = (false, eval e1 X.env) :: starEach [e2] X.env := by rfl) (s2 : starEach [e2] X.env = (false, eval e2 X.env) :: starEach [] X.env := by rfl) :
    JS X z (.Return (some (.Tuple [e1, e2] x1 tp)) pos) (dRetTwo f i) := JS.of (ps_ret (pe_tup (pa_cons he (pa_cons hv pa_nil s2) s1))) fun F σ H S E r hf => by
  refine tE.use r hf fun v H1 F1 S1 d x1 r1 h1 q => ?_
  cases g : getS S1 i with
  | free => rw [g] at q; exact q.elim
  | slf c l => rw [g] at q; exact q.elim
  | val d => rw [g] at q; exact q.elim
  | own c =>
    cases c with
    | dK l => rw [g] at q; exact q.elim
    | dT l => rw [g] at q; exact q.elim
    | lst l =>
      rw [g] at q
      have g1 := getS_some g (by intro x; cases x)
      obtain ⟨b, e1, f1, n1, c1⟩ := r1.sl i _ g1
      have n0 : z.H0 b = none := by
        rcases n1 with n1 | n1
        · exact n1
        · rw [p] at n1; cases n1
      refine ⟨.ref b, e1, by show 2 ≤ sizeLine; rw [sizeLine_eq]; omega, fun a ha => ?_⟩
      have r2 := (r1.setFree (i := i)).layF (.tup [v, .ref b]) ha
      obtain ⟨xs, eb, hb⟩ := c1
      have ab : a ≠ b := fun w => by rw [w, eb] at ha; cases ha
      refine ⟨F1, σ, _, .two d l, x1, r2, ⟨a, b, v, rfl, upd_same, r1.ext.free ha, h1, f1, n0, ⟨xs, by rw [upd_ne (Ne.symm ab)]; exact eb, hb⟩, fun j c' hj ej => ?_⟩, q⟩
      rcases setS_get hj with ⟨rfl, e⟩ | ⟨ne, hj'⟩
      · cases e
      · exact ne (r1.inj j i c' _ b hj' g1 ej e1)
end DL

namespace DL
open PySem L2
/-- all that stands is known -/
theorem Rep.all {n : Nm} {σ : L2.St} {H : Hp} {S : SS} (len : σ.length = S.length) (h : ∀ (i : Nat) (s : Slot), S[i]? = some s → s = Slot.free ∨ ∃ d v, s = Slot.val d ∧ σ[i]? = some (some v) ∧ Rp n H d v) : Rep ⟨n, H, H, prNo⟩ H σ H S where
  ext := Ext.refl
  keep := fun a o e _ => e
  new := fun a o e => .inl ⟨o, e⟩
  len := len
  sl := fun i s hs => by
    rcases h i s hs with rfl | ⟨d, v, rfl, e, q⟩
    · trivial
    · exact ⟨v, e, q⟩
  pin := fun i a e => by cases e
  pi0 := fun i a e => by cases e
  pf := fun i a e => by cases e
  inj := fun i j c c' a hi hj _ _ => by
    rcases h i _ hi with e | ⟨d, v, e, _⟩ <;> cases e
/-- the slots as a test sees them: owned lists as values -/
@[reducible] def seenS : Slot → Slot
  | .own (.lst l) => .val (.lst l)
  | .val d => .val d
  | _ => .free
@[reducible] def seen : SS → SS
  | [] => []
  | s :: r => seenS s :: seen r
theorem seen_len : ∀ S : SS, (seen S).length = S.length
  | [] => rfl
  | _ :: r => congrArg (· + 1) (seen_len r)
theorem seen_get : ∀ {S : SS} {i : Nat} {s : Slot}, (seen S)[i]? = some s → s = .free ∨ (∃ d, s = .val d ∧ S[i]? = some (.val d)) ∨ ∃ l, s = .val (.lst l) ∧ S[i]? = some (.own (.lst l))
  | [], _, _, h => by cases h
  | t :: r, 0, s, h => by
    cases t with
    | free => exact .inl (Option.some.inj h).symm
    | val d => exact .inr (.inl ⟨d, (Option.some.inj h).symm, rfl⟩)
    | slf c l => exact .inl (Option.some.inj h).symm
    | own c =>
      cases c with
      | lst l => exact .inr (.inr ⟨l, (Option.some.inj h).symm, rfl⟩)
      | dK l => exact .inl (Option.some.inj h).symm
      | dT l => exact .inl (Option.some.inj h).symm
  | t :: r, i + 1, s, h => seen_get (S := r) h
theorem Rep.seen1 {z : Z} {F : Hp} {σ : L2.St} {H : Hp} {S : SS} (r : Rep z F σ H S) {i : Nat} {s : Slot} (h : (seen S)[i]? = some s) : s = Slot.free ∨ ∃ d v, s = Slot.val d ∧ σ[i]? = some (some v) ∧ Rp z.n H d v := by
  rcases seen_get h with e | ⟨d, rfl, hs⟩ | ⟨l, rfl, hs⟩
  · exact .inl e
  · obtain ⟨v, e, q⟩ := r.sl i _ hs
    exact .inr ⟨d, v, rfl, e, q.mono r.ext⟩
  · obtain ⟨a, e, f1, _, ⟨xs, e2, q⟩⟩ := r.sl i _ hs
    exact .inr ⟨.lst l, .ref a, rfl, e, a, xs, rfl, e2, q.mono r.ext⟩
theorem Rep.seen {z : Z} {F : Hp} {σ : L2.St} {H : Hp} {S : SS} (r : Rep z F σ H S) : Rep ⟨z.n, H, H, prNo⟩ H σ H (seen S) :=
  Rep.all (by rw [seen_len]; exact r.len) fun i s hs => r.seen1 hs
/-- nothing that is tracked has changed -/
theorem Rep.later {z : Z} {F : Hp} {σ : L2.St} {H H' : Hp} {S : SS} (r : Rep z F σ H S) (k : ∀ a o, H a = some o → H' a = some o) : Rep z F σ H' S :=
  r.grow Ext.refl (fun a o e => .inl ⟨o, e⟩) k (r.ext.trans (Ext.of k))
/-- a test that looks at owned lists -/
def dPeek (t : DT) : DT := fun S R => t (seen S) fun b _ => R b S
theorem jt_peek {X : Cx} {z : Z} {c : Expr} {t : DT} (hc : ∀ F0 H0, JT X ⟨z.n, F0, H0, prNo⟩ c t) : JT X z c (dPeek t) :=
  ⟨fun pins s σ H Q I ⟨F, S, R, r, hf, k⟩ => (hc H H).run pins s σ H Q I ⟨H, _, fun b _ => R b S, r.seen, hf, fun b H' ⟨F', S', x, r', q⟩ =>
    k b H' ⟨F, S, Ext.refl, r.later (fun a o e => r'.keep a o e (fun i w => (by cases w))), q⟩⟩⟩
def tAny (n : Nm) (t : DT) : TT := fun σ H Q => ∃ F0 H0, tT ⟨n, F0, H0, prNo⟩ t σ H Q
theorem pt_any {X : Cx} {n : Nm} {c : Expr} {t : DT} (hc : ∀ F0 H0, JT X ⟨n, F0, H0, prNo⟩ c t) : PT X c (tAny n t) :=
  ⟨fun pins s σ H Q I ⟨F0, H0, h⟩ => (hc F0 H0).run pins s σ H Q I h⟩
end DL

namespace DL
open PySem L2
abbrev DR := SS → (Rs → SS → Prop) → Prop
def PostU (z : Z) (F : Hp) (σ : L2.St) (R : Rs → SS → Prop) : VK := fun v H' => ∃ F' S' r, Ext z.n F F' ∧ Rep z F' σ H' S' ∧ RsOk z F' σ H' S' v r ∧ R r S'
def tU (z : Z) (f : DR) : TE := fun σ H Q => ∃ F S R, Rep z F σ H S ∧ f S R ∧ ∀ v H', PostU z F σ R v H' → Q v H'
def JR (X : Cx) (z : Z) (e : Expr) (f : DR) : Prop := PE X e (tU z f)
def rCall (φ : SpD) (dv : List D) (f : DA) : DR := fun S R => f S fun as S1 => le1 (ownR S1 as) ∧ res S1 as fun ars => φ (ars ++ allVal dv) fun r cs => R r (putR S1 (ownR S1 as) cs)
section
variable {X : Cx} {z : Z} {CX : CXT} {k : Nat} {f : Addr} {fd : FuncData} {ps : List Str} {φ : SpD} {dvs : List V} {dv : List D} {ds : List Value} {E : XK} {x : Str} {p pos : Pos} {e : Expr} {es : List Expr} {fa : DA}
theorem jr_call (F : FnOk X.prog X.w X.K X.mg X.base CX k f fd ps (spOf z.n φ)) (hr : Room k X.A) (hg : Gl X x) (hm : X.mg x = some (.ref f)) (hk : PySem.W.keepIn X.K (.ref f) = true) (hb : Binds X.K fd ps ds) (hd : Vals dvs ds) (hx : Passes CX X E) (hdv : ∀ (_ : Unit) F, Rps z.n F dv dvs)
    (ha : JA X z (e :: es) fa) (hdb : (x == ("__debug__" : Str)) = false := by decide) (he : starEach (e :: es) X.env = (false, eval e X.env) :: starEach es X.env := by rfl) (hpl : (backTo pos (starEach es X.env)).any (·.1) = false := by rfl) :
    JR X z (.Call (.Name x p) (e :: es) [] pos) (rCall φ dv fa) :=
  ⟨fun pins st σ H Q I ⟨F0, S, R, r, hf, kk⟩ => thn ((pe_call F hr hg hm hk hb hd hx ha hdb he hpl).run pins st σ H (PostU z F0 σ R) I
    (tA.use r hf fun vs H1 F1 S1 as x1 r1 h1 ⟨l1, q⟩ => call_use (hdv () _) r1 h1 l1 q fun v H' F' rr cs x r' ok q' => ⟨F', _, rr, x1.trans x, r', ok, q'⟩)) fun _ _ q => EP.up q kk⟩
end
def Held (z : Z) (F : Hp) (σ : L2.St) (H : Hp) (S : SS) (i : Nat) (d : D) (l : List D) : Prop :=
  ∃ a b v1, σ[i]? = some (some (.ref a)) ∧ H a = some (.tup [v1, .ref b]) ∧ F a = none ∧ Rp z.n F d v1 ∧ Fresh z σ F H S (.lst l) b
abbrev DQ2 := D → List D → DS
def tQ2 (z : Z) (i : Nat) (g : DQ2) : TS := fun E0 σ H => ∃ F S E d l, Rep z F σ H S ∧ Held z F σ H S i d l ∧ g d l E S ∧ EndsLe z F E E0
def JQ2 (X : Cx) (z : Z) (i : Nat) (st : List Stmt) (g : DQ2) : Prop := PSs X st (tQ2 z i g)
def pFor (b : DS) : DQ2 := fun _ _ => b
/-- if t: a (which does not go on); rest -/
def pGd (i : Nat) (t : DT) (a : DS) (g : DQ2) : DQ2 := fun d l E S => t (setS (seen S) i (.val (.tup [d, .lst l]))) fun k _ => (k = true → a { nx := fun _ => False, rt := E.rt, bk := E.bk, ct := E.ct } S) ∧ (k = false → g d l E S)
def pIte (i : Nat) (t : DT) (a b : DQ2) : DQ2 := fun d l E S => t (setS (seen S) i (.val (.tup [d, .lst l]))) fun k _ => (k = true → a d l E S) ∧ (k = false → b d l E S)
/-- p, q = x -/
def pPart (p q : Nat) (g : DS) : DQ2 := fun d l E S => g E (setS (setS S p (.val d)) q (.own (.lst l)))
/-- x = f(..) -/
def dTwo (i : Nat) (f : DR) (g : DS) (h : DQ2) : DS := fun E S => f S fun r S' => match r with
  | .val d => g E (setS S' i (.val d))
  | .own _ => False
  | .two d l => i < S'.length ∧ h d l E (setS S' i .free)
section
variable {z : Z} {F : Hp} {σ : L2.St} {H H' : Hp} {S : SS} {i : Nat} {d : D} {l : List D}
theorem Held.later (h : Held z F σ H S i d l) (k : ∀ a o, H a = some o → H' a = some o) : Held z F σ H' S i d l := by
  obtain ⟨a, b, v1, e, h1, f1, r1, fr⟩ := h
  exact ⟨a, b, v1, e, k _ _ h1, f1, r1, fr.out, fr.new, fr.ct.mono Ext.refl fun o w _ => k _ _ w, fr.ne⟩
theorem Held.seen (h : Held z F σ H S i d l) (r : Rep z F σ H S) : Rep ⟨z.n, H, H, prNo⟩ H σ H (setS (seen S) i (.val (.tup [d, .lst l]))) := by
  refine Rep.all (by rw [setS_len, seen_len]; exact r.len) fun j s hs => ?_
  rcases setS_get hs with ⟨rfl, rfl⟩ | ⟨_, hs⟩
  · obtain ⟨a, b, v1, e, h1, f1, r1, fr⟩ := h
    obtain ⟨xs, e2, q⟩ := fr.ct
    exact .inr ⟨_, .ref a, rfl, e, a, [v1, .ref b], rfl, h1, v1, [.ref b], rfl, r1.mono r.ext, .ref b, [], rfl, ⟨b, xs, rfl, e2, q.mono r.ext⟩, rfl⟩
  · exact r.seen1 hs
end
section
variable {X : Cx} {z : Z} {i : Nat} {c : Expr} {xs ys rest : List Stmt} {t : DT} {a b : DQ2} {pos : Pos} {g : DS} {e : Expr}
theorem JQ2.of {tt : TS} {g : DQ2} (h : PSs X xs tt) (s : ∀ F σ H S E d l, Rep z F σ H S → Held z F σ H S i d l → g d l E S → tt (endsOf z F E) σ H) : JQ2 X z i xs g :=
  ⟨fun pins s0 σ H D I ⟨F, S, E, d, l, r, hd, hf, k⟩ => thn (h.run pins s0 σ H _ I (s F σ H S E d l r hd hf)) fun _ _ q => SP.up q k.nx k.rt k.bk k.ct⟩
theorem jb_never {sts : List Stmt} : JB X z sts dNever := ⟨fun _ _ _ _ _ _ ⟨_, _, _, _, hf, _⟩ => hf.elim⟩
theorem jp2_for (h : JB X z xs g) : JQ2 X z i xs (pFor g) := JQ2.of h fun F σ H S E d l r _ hf => ⟨F, S, E, r, hf, .refl⟩
theorem jp2_ite (hc : ∀ F0 H0, JT X ⟨z.n, F0, H0, prNo⟩ c t) (ha : JQ2 X z i xs a) (hb : JQ2 X z i ys b) : JQ2 X z i [.If c xs ys pos] (pIte i t a b) :=
  JQ2.of (pss_one (ps_if (pt_any hc) ha hb)) fun F σ H S E d l r hd hf => by
    refine ⟨H, H, H, _, _, hd.seen r, hf, fun k H' ⟨F', S', x, r', q⟩ => ?_⟩
    have kp : ∀ a o, H a = some o → H' a = some o := fun a o e => r'.keep a o e (fun i w => (by cases w))
    cases k with
    | true => exact iteT ⟨F, S, E, d, l, r.later kp, hd.later kp, q.1 rfl, .refl⟩
    | false => exact iteF ⟨F, S, E, d, l, r.later kp, hd.later kp, q.2 rfl, .refl⟩
theorem jp2_gd {a : DS} {b : DQ2} (hc : ∀ F0 H0, JT X ⟨z.n, F0, H0, prNo⟩ c t) (ha : JB X z xs a) (hb : JQ2 X z i rest b) : JQ2 X z i (.If c xs [] pos :: rest) (pGd i t a b) :=
  JQ2.of (pss_cons (ps_if (pt_any hc) ha pss_nil) hb) fun F σ H S E d l r hd hf => by
    refine ⟨H, H, H, _, _, hd.seen r, hf, fun k H' ⟨F', S', x, r', q⟩ => ?_⟩
    have kp : ∀ a o, H a = some o → H' a = some o := fun a o e => r'.keep a o e (fun i w => (by cases w))
    cases k with
    | true => exact iteT ⟨F, S, _, r.later kp, q.1 rfl, ⟨fun _ _ ⟨_, _, _, _, w⟩ => w.elim, fun _ _ h => h, fun _ _ h => h, fun _ _ h => h⟩⟩
    | false => exact iteF (show tQ2 z i b _ σ H' from ⟨F, S, E, d, l, r.later kp, hd.later kp, q.2 rfl, .refl⟩)
theorem jp2_part {n1 n2 : Expr} {p q kt : Nat} {tp : Pos} (hK : z.n.K = X.K) (hc : X.calm = true) (hv : PE X e (tVar i)) (h1 : PG X n1 (gName p)) (h2 : PG X n2 (gName q)) (pp : z.pr p = none) (pq : z.pr q = none) (hb : JB X z rest g)
    (e1 : (assignEach [n1, n2] X.env).map (·.2) = assign n1 X.env :: (assignEach [n2] X.env).map (·.2) := by rfl) (e2 : (assignEach [n2] X.env).map (·.2) = assign n2 X.env :: (assignEach [] X.env).map (·.2) := by rfl)
    (hn : (assignEach [n1, n2] X.env).length = 2 := by rfl) (hst : (assignEach [n1, n2] X.env).findIdx? (·.1) = none := by rfl)
    (hs : swapsWithSole [.Tuple [n1, n2] kt tp] e pos.line X.env = pure false := by rfl) (hw : swappedStores [.Tuple [n1, n2] kt tp] e X.env = pure none := by rfl)
    (h3 : (assignEach [.Tuple [n1, n2] kt tp] X.env).map (·.2) = [assign (.Tuple [n1, n2] kt tp) X.env] := by rfl) :
    JQ2 X z i (.Assign [.Tuple [n1, n2] kt tp] e pos :: rest) (pPart p q g) :=
  JQ2.of (pss_cons (ps_asg hv (pg_tup hc (pgs_cons h1 (pgs_cons h2 pgs_nil e2) e1) hn hst) hs hw h3) hb) fun F σ H S E d l r ⟨a, b, v1, e, ha, f1, r1, fr⟩ hf => by
    refine ⟨.ref a, e, a, [v1, .ref b], rfl, SqT.of ha, rfl, v1, [.ref b], rfl, .ref b, [], rfl, rfl, F, _, E, (r.setVal pp r1).setOwn pq ⟨fr.out, fr.new, fr.ct, fun j c' hj ej => ?_⟩, hf, .refl⟩
    rcases setS_get hj with ⟨_, w⟩ | ⟨ne, hj'⟩
    · cases w
    · rw [st_set, if_neg (fun w => ne w.symm)] at ej
      exact fr.ne j c' hj' ej
theorem jb_two {n1 : Expr} {f : DR} {h : DQ2} (he : JR X z e f) (hg : PG X n1 (gName i)) (pi : z.pr i = none) (h1 : JB X z rest g) (h2 : JQ2 X z i rest h) (hs : swapsWithSole [n1] e pos.line X.env = pure false := by rfl) (hw : swappedStores [n1] e X.env = pure none := by rfl)
    (h3 : (assignEach [n1] X.env).map (·.2) = [assign n1 X.env] := by rfl) : JB X z (.Assign [n1] e pos :: rest) (dTwo i f g h) :=
  JB.of (pss_cons (ps_asg he hg hs hw h3) (u := fun E0 σ H => tS z g E0 σ H ∨ tQ2 z i h E0 σ H) ⟨fun pins s σ H D I q => q.elim (h1.run pins s σ H D I) (h2.run pins s σ H D I)⟩) fun F σ H S E r hf => by
    refine ⟨F, S, _, r, hf, fun v H' ⟨F', S', rr, x, r', ok, q⟩ => ?_⟩
    cases rr with
    | own c => exact q.elim
    | val d => exact .inl ⟨F', _, E, r'.setVal pi ok, q, .up x⟩
    | two d l =>
      obtain ⟨hl, q⟩ := q
      obtain ⟨a, b, v1, rfl, ha, f1, r1, fr⟩ := ok
      refine .inr ⟨F', _, E, d, l, r'.setSlot pi _ .free (fun _ => trivial) (fun c w => by cases w), ⟨a, b, v1, by rw [st_set, if_pos rfl, if_pos (by rw [r'.len]; exact hl)], ha, f1, r1, fr.out, fr.new, fr.ct, fun j c' hj ej => ?_⟩, q, .up x⟩
      rcases setS_get hj with ⟨_, w⟩ | ⟨ne, hj'⟩
      · cases w
      · rw [st_set, if_neg (fun w => ne w.symm)] at ej
        exact fr.ne j c' hj' ej
end
end DL

namespace DL
open PySem L2
section
variable {X : Cx} {z : Z}
/-- return (e, g), g a new list -/
def dRetTwoF (f : DE) (g : DF) : DS := fun E S => f S fun d S1 => g S1 fun c S2 => match c with
  | .lst l => E.rt (.two d l) S2
  | _ => False
theorem js_retTwoF {e1 e2 : Expr} {x1 : Nat} {tp pos : Pos} {f : DE} {g : DF} (he : JE X z e1 f) (hg : JF X z e2 g) (s1 : starEach [e1, e2] X.env = (false, eval e1 X.env) :: starEach [e2] X.env := by rfl) (s2 : starEach [e2] X.env = (false, eval e2 X.env) :: starEach [] X.env := by rfl) :
    JS X z (.Return (some (.Tuple [e1, e2] x1 tp)) pos) (dRetTwoF f g) := JS.of (ps_ret (pe_tup (pa_cons he (pa_cons hg pa_nil s2) s1))) fun F σ H S E r hf => by
  refine tE.use r hf fun v H1 F1 S1 d x1 r1 h1 q => tF.use r1 q fun b H2 F2 S2 c x2 r2 fr q2 => ?_
  cases c with
  | dK l => exact q2.elim
  | dT l => exact q2.elim
  | lst l =>
    refine ⟨by show 2 ≤ sizeLine; rw [sizeLine_eq]; omega, fun a ha => ?_⟩
    obtain ⟨xs, eb, hb⟩ := fr.ct
    have ab : a ≠ b := fun w => by rw [w, eb] at ha; cases ha
    exact ⟨F2, σ, S2, .two d l, x1.trans x2, r2.layF (.tup [v, .ref b]) ha, ⟨a, b, v, rfl, upd_same, r2.ext.free ha, h1.mono x2, fr.out, fr.new, ⟨xs, by rw [upd_ne (Ne.symm ab)]; exact eb, hb⟩, fr.ne⟩, q2⟩
/-- what is told as it is -/
theorem JR.of {t : TE} {f : DR} {e : Expr} (h : PE X e t) (s : ∀ F σ H S R, Rep z F σ H S → f S R → t σ H (PostU z F σ R)) : JR X z e f :=
  ⟨fun pins st σ H Q I ⟨F, S, R, r, hf, k⟩ => thn (h.run pins st σ H _ I (s F σ H S R r hf)) fun _ _ q => EP.up q k⟩
theorem tU.use {F : Hp} {σ : L2.St} {H : Hp} {S : SS} {f : DR} {R : Rs → SS → Prop} {Q : VK} (r : Rep z F σ H S) (h : f S R) (k : ∀ v H' F' S' rr, Ext z.n F F' → Rep z F' σ H' S' → RsOk z F' σ H' S' v rr → R rr S' → Q v H') : tU z f σ H Q :=
  ⟨F, S, R, r, h, fun v H' ⟨F', S', rr, a, b, c, q⟩ => k v H' F' S' rr a b c q⟩
def rE (f : DE) : DR := fun S R => f S fun d S' => R (.val d) S'
def rF (f : DF) : DR := fun S R => f S fun c S' => R (.own c) S'
def rIf (t : DT) (f g : DR) : DR := fun S R => t S fun k S1 => (k = true → f S1 R) ∧ (k = false → g S1 R)
theorem jr_e {e : Expr} {f : DE} (h : JE X z e f) : JR X z e (rE f) := JR.of h fun F σ H S R r hf => tE.use r hf fun v H' F' S' d x r' h' q => ⟨F', S', .val d, x, r', h', q⟩
theorem jr_f {e : Expr} {f : DF} (h : JF X z e f) : JR X z e (rF f) := JR.of h fun F σ H S R r hf => tF.use r hf fun a H' F' S' c x r' fr q => ⟨F', S', .own c, x, r', ⟨a, rfl, fr⟩, q⟩
theorem jr_if {c a b : Expr} {pos : Pos} {t : DT} {f g : DR} (hc : JT X z c t) (ha : JR X z a f) (hb : JR X z b g) : JR X z (.IfExp c a b pos) (rIf t f g) :=
  JR.of (pe_ifExp hc ha hb) fun F σ H S R rp hf => tT.use rp hf fun k H' F' S' x r' q => by
    cases k with
    | true => exact iteT (tU.use r' (q.1 rfl) fun v2 H2 F2 S2 d2 x2 r2 h2 q2 => ⟨F2, S2, d2, x.trans x2, r2, h2, q2⟩)
    | false => exact iteF (tU.use r' (q.2 rfl) fun v2 H2 F2 S2 d2 x2 r2 h2 q2 => ⟨F2, S2, d2, x.trans x2, r2, h2, q2⟩)
def dRetR (f : DR) : DS := fun E S => f S fun r S' => E.rt r S'
theorem js_retR {e : Expr} {pos : Pos} {f : DR} (h : JR X z e f) : JS X z (.Return (some e) pos) (dRetR f) :=
  JS.of (ps_ret h) fun F σ H S E r hf => tU.use r hf fun v H' F' S' rr x r' h' q => ⟨F', σ, S', rr, x, r', h', q⟩
end
/-- an object that is nobody's is changed -/
theorem Rep.other {z : Z} {F : Hp} {σ : L2.St} {H : Hp} {S : SS} (r : Rep z F σ H S) {b : Addr} {o : HO} (f : F b = none) (n0 : z.H0 b = none) (ne : ∀ (i : Nat) (c : Ct), S[i]? = some (.own c) → σ[i]? ≠ some (some (.ref b))) : Rep z F σ (upd H b o) S where
  ext := fun c u e => by
    obtain ⟨u', e', l⟩ := r.ext c u e
    exact ⟨u', by rw [upd_ne (ne_of_none e f)]; exact e', l⟩
  keep := fun a u h hp => by rw [upd_ne (ne_of_none h n0)]; exact r.keep a u h hp
  new := r.new
  len := r.len
  sl := fun i s hs => by
    have q := r.sl i s hs
    cases s with
    | free => trivial
    | val d => exact q
    | own c =>
      obtain ⟨a, e1, f1, nw', c1⟩ := q
      have nb : a ≠ b := fun e => ne i c hs (by rw [← e]; exact e1)
      exact ⟨a, e1, f1, nw', c1.mono Ext.refl fun o' h' _ => by rw [upd_ne nb]; exact h'⟩
    | slf c l =>
      obtain ⟨a, dx, fs, e1, p1, h1, ⟨fs0, f1⟩, x1, g1⟩ := q
      exact ⟨a, dx, fs, e1, p1, by rw [upd_ne (ne_of_none f1 f)]; exact h1, ⟨fs0, f1⟩, x1, g1⟩
  pin := r.pin
  pi0 := fun i a h => by
    obtain ⟨⟨u, h1⟩, w, h2, h3⟩ := r.pi0 i a h
    exact ⟨⟨u, h1⟩, w, by rw [upd_ne (ne_of_none h1 n0)]; exact h2, h3⟩
  pf := r.pf
  inj := r.inj
/-- x[1].append(e), e a constant: then x is given up -/
def pPush (g : DS) : DQ2 := fun _ l E S => l.length < sizeLine ∧ g E S
/-- y = list(x[1]), whole numbers -/
def pCopy (i y : Nat) (f : DF) (g : DQ2) : DQ2 := fun d l E S => f (setS (seen S) i (.val (.tup [d, .lst l]))) fun c _ => ∃ ns : List Int, c = .lst (ns.map .int) ∧ g d l E (setS S y (.val (.lst (ns.map .int))))
def tAnyF (n : Nm) (f : DF) : TE := fun σ H Q => ∃ F0 H0, tF ⟨n, F0, H0, prNo⟩ f σ H Q
section
variable {X : Cx} {z : Z} {i : Nat} {rest : List Stmt} {g : DS}
theorem pf_any {n : Nm} {e : Expr} {f : DF} (hc : ∀ F0 H0, JF X ⟨n, F0, H0, prNo⟩ e f) : PE X e (tAnyF n f) :=
  ⟨fun pins s σ H Q I ⟨F0, H0, h⟩ => (hc F0 H0).run pins s σ H Q I h⟩
theorem jp2_copy {n1 e : Expr} {y : Nat} {f : DF} {b : DQ2} {pos : Pos} (hc : ∀ F0 H0, JF X ⟨z.n, F0, H0, prNo⟩ e f) (hg : PG X n1 (gName y)) (py : z.pr y = none) (yi : y ≠ i) (hb : JQ2 X z i rest b) (hs : swapsWithSole [n1] e pos.line X.env = pure false := by rfl) (hw : swappedStores [n1] e X.env = pure none := by rfl)
    (h3 : (assignEach [n1] X.env).map (·.2) = [assign n1 X.env] := by rfl) : JQ2 X z i (.Assign [n1] e pos :: rest) (pCopy i y f b) :=
  JQ2.of (pss_cons (ps_asg (pf_any hc) hg hs hw h3) hb) fun F σ H S E d l r hd hf => by
    refine ⟨H, H, H, _, _, hd.seen r, hf, fun v H' ⟨F', S', c, a', e, x, r', fr', q⟩ => ?_⟩
    subst e
    obtain ⟨ns, rfl, q⟩ := q
    have kp : ∀ a o, H a = some o → H' a = some o := fun a o e => r'.keep a o e (fun i w => (by cases w))
    obtain ⟨xs, eb, hb⟩ := fr'.ct
    have ex : xs = ns.map V.int := Rps.ints hb
    subst ex
    have hn : H a' = none := fr'.new
    have xF : Ext z.n F (upd F a' (.lst (ns.map V.int))) := Ext.new (r.ext.free hn)
    have r2 : Rep z (upd F a' (.lst (ns.map V.int))) σ H' S := r.grow xF (fun c u w => by
      by_cases q : c = a'
      · subst q; exact .inr (.inl hn)
      · rw [upd_ne q] at w; exact .inl ⟨u, w⟩) kp fun c u w => by
      by_cases q : c = a'
      · subst q; rw [upd_same] at w; cases w; exact ⟨_, eb, .refl _⟩
      · rw [upd_ne q] at w
        obtain ⟨u', e', l⟩ := r.ext c u w
        exact ⟨u', kp c u' e', l⟩
    obtain ⟨a, b, v1, e1, ha, f1, rp1, fr⟩ := hd
    have na : a ≠ a' := fun w => by rw [w, hn] at ha; cases ha
    obtain ⟨ys, eb2, hb2⟩ := fr.ct
    have nb : b ≠ a' := fun w => by rw [w, hn] at eb2; cases eb2
    refine ⟨_, _, E, d, l, r2.setVal py (d := .lst (ns.map .int)) ⟨a', _, rfl, upd_same, Rps.of_ints ns⟩, ⟨a, b, v1, by rw [st_set, if_neg yi]; exact e1, kp _ _ ha, by rw [upd_ne na]; exact f1, rp1.mono xF, by rw [upd_ne nb]; exact fr.out, fr.new, ⟨ys, kp _ _ eb2, hb2.mono xF⟩, fun j c' hj ej => ?_⟩, q, .up xF⟩
    rcases setS_get hj with ⟨_, w⟩ | ⟨ne, hj'⟩
    · cases w
    · rw [st_set, if_neg (fun w => ne w.symm)] at ej
      exact fr.ne j c' hj' ej
theorem jp2_push {o e : Expr} {j : Nat} {p1 p2 apos cpos pos : Pos} {w : V} {dd : D} (hv : PE X o (tVar i)) (he : PE X e (tC w)) (hd : ∀ n F, Rp n F dd w) (hi : PlainIx (.Constant (.int 1) j p1)) (pa : PlainAttrs "list") (slot : PySem.Slot "list" "append" "list.append") (hty : typeOf (.builtin "list.append") = pure (.type "method_descriptor")) (hb : JB X z rest g)
    (hbase : attributeBase (.Subscript o (.Constant (.int 1) j p1) p2) "append" X.env (eval (.Subscript o (.Constant (.int 1) j p1) p2) X.env) = eval (.Subscript o (.Constant (.int 1) j p1) p2) X.env := by rfl)
    (hfew : ((backTo cpos (starEach [e] X.env)).all (fun x => !x.1) && (backToKw cpos (keywordEach [] X.env)).all (fun x => x.1.isSome)
      && decide (([e] : List Expr).length + ([] : List Keyword).length + (if ([] : List Keyword).isEmpty then 0 else 1) < 30)) = true := by rfl)
    (hline : (apos.endLine == cpos.line) = true := by rfl) (hs : starEach [e] X.env = (false, eval e X.env) :: starEach [] X.env := by rfl) (hplain : (backTo cpos (starEach [] X.env)).any (·.1) = false := by rfl) :
    JQ2 X z i (.Expr (.Call (.Attribute (.Subscript o (.Constant (.int 1) j p1) p2) "append" apos) [e] [] cpos) pos :: rest) (pPush g) := by
  obtain ⟨r0, mt, sr⟩ := (om_append : OwnM X z "list.append" mAppend).ex
  refine JQ2.of (pss_cons (ps_expr (pe_bm pa slot hty mt (pe_ix ix_seq hv pe_int hi) (pa_cons he pa_nil hs) hbase hfew hline hs hplain)) hb) fun F σ H S E d l r hd' hf => ?_
  obtain ⟨a, b, v1, e1, ha, f1, rp1, fr⟩ := hd'
  obtain ⟨hl, hf⟩ := hf
  obtain ⟨xs, eb, hbx⟩ := fr.ct
  refine ⟨.ref a, e1, .inr (.inl ⟨a, [v1, .ref b], 1, .ref b, rfl, rfl, SqT.of ha, rfl, ?_⟩)⟩
  refine ⟨.inl ⟨rfl, xs, SqL.of eb⟩, ?_⟩
  exact sr (k := fun _ => True) r eb hbx (Rps.one (hd _ _)) ⟨hl, trivial⟩ fun xs' l' s' _ => ⟨F, S, E, r.other fr.out fr.new fr.ne, hf, .refl⟩
end
end DL

namespace DL
open PySem L2
def noL (F : Hp) : Hp := fun a => match F a with
  | some (.lst _) => none
  | o => o
theorem noL_cases (F : Hp) (a : Addr) : (∃ xs, F a = some (.lst xs) ∧ noL F a = none) ∨ noL F a = F a := by
  unfold noL
  cases h : F a with
  | none => exact .inr rfl
  | some o =>
    cases o with
    | lst xs => exact .inl ⟨xs, rfl, rfl⟩
    | _ => exact .inr rfl
theorem noL_some {F : Hp} {a : Addr} {o : HO} (h : noL F a = some o) : F a = some o := by
  rcases noL_cases F a with ⟨xs, _, e⟩ | e
  · rw [e] at h; cases h
  · rw [← e]; exact h
theorem noL_lst {F : Hp} {a : Addr} {xs : List V} : noL F a ≠ some (.lst xs) := fun h => by
  have h1 := noL_some h
  unfold noL at h
  rw [h1] at h; cases h
theorem noL_of {F : Hp} {a : Addr} {o : HO} (h : F a = some o) (n : ∀ xs, o ≠ .lst xs) : noL F a = some o := by
  rcases noL_cases F a with ⟨xs, e, _⟩ | e
  · rw [h] at e; cases e; exact absurd rfl (n xs)
  · rw [e]; exact h
theorem noL_ext {n : Nm} {F : Hp} : Ext n (noL F) F := fun a o h => ⟨o, noL_some h, .refl o⟩
mutual
/-- data without lists -/
@[reducible] def noLd : D → Bool
  | .lst _ => false
  | .scr _ => false
  | .tup l => noLds l
  | .dK l => noLdK l
  | .dT l => noLdT l
  | .ins _ l => noLdF l
  | .non => true
  | .bl _ => true
  | .int _ => true
  | .str _ => true
  | .stt => true
@[reducible] def noLds : List D → Bool
  | [] => true
  | d :: r => noLd d && noLds r
@[reducible] def noLdK : List (Key × D) → Bool
  | [] => true
  | p :: r => noLd p.2 && noLdK r
@[reducible] def noLdT : List (List Key × D) → Bool
  | [] => true
  | p :: r => noLd p.2 && noLdT r
@[reducible] def noLdF : List (Nat × D) → Bool
  | [] => true
  | p :: r => noLd p.2 && noLdF r
end
mutual
theorem Rp.noL {n : Nm} {F : Hp} : ∀ (d : D) {v : V}, noLd d = true → Rp n F d v → Rp n (DL.noL F) d v
  | .non, _, _, h => h
  | .bl _, _, _, h => h
  | .int _, _, _, h => h
  | .str _, _, _, h => h
  | .stt, _, _, h => h
  | .lst _, _, w, _ => by cases w
  | .scr _, _, w, _ => by cases w
  | .tup l, _, w, h => by
    obtain ⟨a, xs, e, t, r⟩ := h
    exact ⟨a, xs, e, noL_of t (by intro _ q; cases q), Rps.noL l w r⟩
  | .dK l, _, w, h => by
    obtain ⟨a, ob, xs, e, t, r⟩ := h
    exact ⟨a, ob, xs, e, noL_of t (by intro _ q; cases q), RpK.noL l w r⟩
  | .dT l, _, w, h => by
    obtain ⟨a, ob, xs, e, t, r⟩ := h
    exact ⟨a, ob, xs, e, noL_of t (by intro _ q; cases q), RpT.noL l w r⟩
  | .ins c l, _, w, h => by
    obtain ⟨a, dx, fs, e, t, g, r⟩ := h
    exact ⟨a, dx, fs, e, noL_of t (by intro _ q; cases q), g, RpF.noL l w r⟩
theorem Rps.noL {n : Nm} {F : Hp} : ∀ (l : List D) {vs : List V}, noLds l = true → Rps n F l vs → Rps n (DL.noL F) l vs
  | [], _, _, h => h
  | d :: ds, _, w, h => by
    obtain ⟨v, r, e, h1, h2⟩ := h
    have w := (Bool.and_eq_true _ _).mp w
    exact ⟨v, r, e, Rp.noL d w.1 h1, Rps.noL ds w.2 h2⟩
theorem RpK.noL {n : Nm} {F : Hp} : ∀ (l : List (Key × D)) {vs : List (Key × V)}, noLdK l = true → RpK n F l vs → RpK n (DL.noL F) l vs
  | [], _, _, h => h
  | (k, d) :: ds, _, w, h => by
    obtain ⟨v, r, e, h1, h2⟩ := h
    have w := (Bool.and_eq_true _ _).mp w
    exact ⟨v, r, e, Rp.noL d w.1 h1, RpK.noL ds w.2 h2⟩
theorem RpT.noL {n : Nm} {F : Hp} : ∀ (l : List (List Key × D)) {vs : List (List Key × V)}, noLdT l = true → RpT n F l vs → RpT n (DL.noL F) l vs
  | [], _, _, h => h
  | (k, d) :: ds, _, w, h => by
    obtain ⟨v, r, e, h1, h2⟩ := h
    have w := (Bool.and_eq_true _ _).mp w
    exact ⟨v, r, e, Rp.noL d w.1 h1, RpT.noL ds w.2 h2⟩
theorem RpF.noL {n : Nm} {F : Hp} : ∀ (l : List (Nat × D)) {fs : List (Str × V)}, noLdF l = true → RpF n F l fs → RpF n (DL.noL F) l fs
  | [], _, _, _ => trivial
  | (k, d) :: ds, _, w, h => by
    obtain ⟨⟨v, e, h1⟩, h2⟩ := h
    have w := (Bool.and_eq_true _ _).mp w
    exact ⟨⟨v, e, Rp.noL d w.1 h1⟩, RpF.noL ds w.2 h2⟩
end
/-- operands without lists, none of them owned -/
@[reducible] def noLa : List Ar → Bool
  | [] => true
  | .val d :: r => noLd d && noLa r
  | .own _ :: _ => false
theorem ArsOk.noL {n : Nm} {F H : Hp} : ∀ {as : List Ar} {vs : List V} {os : List Addr}, noLa as = true → ArsOk n F H as vs os → os = [] ∧ ArsOk n (DL.noL F) H as vs []
  | [], _, _, _, h => ⟨h.2, h.1, rfl⟩
  | .own _ :: _, _, _, w, _ => by cases w
  | .val d :: as, _, _, w, h => by
    obtain ⟨v, r, e, h1, h2⟩ := h
    have w := (Bool.and_eq_true _ _).mp w
    obtain ⟨e2, h3⟩ := ArsOk.noL w.2 h2
    exact ⟨e2, v, r, e, Rp.noL d w.1 h1, h3⟩
abbrev lsD (l : List Int) : D := .lst (l.map .int)
/-- an object out of the reach of what is tracked -/
structure Nb (z : Z) (F : Hp) (σ : L2.St) (S : SS) (a : Addr) : Prop where
  out : F a = none
  new : z.H0 a = none
  ne : ∀ (i : Nat) (c : Ct), S[i]? = some (.own c) → σ[i]? ≠ some (some (.ref a))
structure HeldL (z : Z) (F : Hp) (σ : L2.St) (H : Hp) (S : SS) (i : Nat) (ll : List (List Int)) : Prop where
  ex : ∃ (a : Addr) (ps : List (Addr × List Int)), ll = ps.map (·.2) ∧ σ[i]? = some (some (.ref a)) ∧ H a = some (.lst (ps.map fun p => V.ref p.1)) ∧ Nb z F σ S a ∧ ∀ p ∈ ps, Nb z F σ S p.1 ∧ H p.1 = some (.lst (p.2.map V.int))
theorem HeldL.later {z : Z} {F : Hp} {σ : L2.St} {H H' : Hp} {S : SS} {i : Nat} {ll : List (List Int)} (h : HeldL z F σ H S i ll) (k : ∀ a o, H a = some o → H' a = some o) : HeldL z F σ H' S i ll := by
  obtain ⟨a, ps, e, e1, h1, n1, h2⟩ := h.ex
  exact ⟨a, ps, e, e1, k _ _ h1, n1, fun p hp => ⟨(h2 p hp).1, k _ _ (h2 p hp).2⟩⟩
theorem lls_rp {n : Nm} {H : Hp} : ∀ {ps : List (Addr × List Int)}, (∀ p ∈ ps, H p.1 = some (.lst (p.2.map V.int))) → Rps n H ((ps.map (·.2)).map lsD) (ps.map fun p => V.ref p.1)
  | [], _ => rfl
  | p :: r, h => ⟨_, _, rfl, ⟨p.1, _, rfl, h p List.mem_cons_self, Rps.of_ints p.2⟩, lls_rp fun q hq => h q (List.mem_cons_of_mem _ hq)⟩
theorem HeldL.seen {z : Z} {F : Hp} {σ : L2.St} {H : Hp} {S : SS} {i : Nat} {ll : List (List Int)} (h : HeldL z F σ H S i ll) (r : Rep z F σ H S) : Rep ⟨z.n, H, H, prNo⟩ H σ H (setS (DL.seen S) i (.val (.lst (ll.map lsD)))) := by
  refine Rep.all (by rw [setS_len, seen_len]; exact r.len) fun j s hs => ?_
  rcases setS_get hs with ⟨rfl, rfl⟩ | ⟨_, hs⟩
  · obtain ⟨a, ps, rfl, e1, h1, n1, h2⟩ := h.ex
    exact .inr ⟨_, .ref a, rfl, e1, a, _, rfl, h1, lls_rp fun p hp => (h2 p hp).2⟩
  · exact r.seen1 hs
abbrev DQL := List (List Int) → DS
def tQL (z : Z) (i : Nat) (g : DQL) : TS := fun E0 σ H => ∃ F S E ll, Rep z F σ H S ∧ HeldL z F σ H S i ll ∧ g ll E S ∧ EndsLe z F E E0
def JQL (X : Cx) (z : Z) (i : Nat) (st : List Stmt) (g : DQL) : Prop := PSs X st (tQL z i g)
/-- if t: a (which does not go on); rest -/
def pGdL (i : Nat) (t : DT) (a : DS) (g : DQL) : DQL := fun ll E S => t (setS (seen S) i (.val (.lst (ll.map lsD)))) fun k _ => (k = true → a { nx := fun _ => False, rt := E.rt, bk := E.bk, ct := E.ct } S) ∧ (k = false → g ll E S)
/-- for y in x: y.append(c); x.append(c); rest: then both are given up -/
def pMess (y : Nat) (g : DS) : DQL := fun ll E S => (∀ l ∈ ll, l.length + ll.length < sizeLine) ∧ ll.length < sizeLine ∧ y < S.length ∧ g E (setS S y .free)
/-- x = f(..), which tells a new list of new lists; rest -/
def dThL (i : Nat) (φ : SpD) (dv : List D) (f : DA) (g : DQL) : DS := fun E S => f S fun as S1 => ownR S1 as = [] ∧ res S1 as fun ars => noLa ars = true ∧ φ (ars ++ allVal dv) fun r _ => ∃ ll : List (List Int), (r = .own (.lst (ll.map lsD)) ∨ r = .val (.lst (ll.map lsD))) ∧ i < S1.length ∧ g ll E (setS S1 i .free)
section
variable {X : Cx} {z : Z} {i : Nat} {xs rest : List Stmt} {pos : Pos}
theorem JQL.of {tt : TS} {g : DQL} (h : PSs X xs tt) (s : ∀ F σ H S E ll, Rep z F σ H S → HeldL z F σ H S i ll → g ll E S → tt (endsOf z F E) σ H) : JQL X z i xs g :=
  ⟨fun pins s0 σ H D I ⟨F, S, E, ll, r, hd, hf, k⟩ => thn (h.run pins s0 σ H _ I (s F σ H S E ll r hd hf)) fun _ _ q => SP.up q k.nx k.rt k.bk k.ct⟩
theorem jpL_gd {c : Expr} {t : DT} {a : DS} {b : DQL} (hc : ∀ F0 H0, JT X ⟨z.n, F0, H0, prNo⟩ c t) (ha : JB X z xs a) (hb : JQL X z i rest b) : JQL X z i (.If c xs [] pos :: rest) (pGdL i t a b) :=
  JQL.of (pss_cons (ps_if (pt_any hc) ha pss_nil) hb) fun F σ H S E ll r hd hf => by
    refine ⟨H, H, H, _, _, hd.seen r, hf, fun k H' ⟨F', S', x, r', q⟩ => ?_⟩
    have kp : ∀ a o, H a = some o → H' a = some o := fun a o e => r'.keep a o e (fun i w => (by cases w))
    cases k with
    | true => exact iteT ⟨F, S, _, r.later kp, q.1 rfl, ⟨fun _ _ ⟨_, _, _, _, w⟩ => w.elim, fun _ _ h => h, fun _ _ h => h, fun _ _ h => h⟩⟩
    | false => exact iteF (show tQL z i b _ σ H' from ⟨F, S, E, ll, r.later kp, hd.later kp, q.2 rfl, .refl⟩)
end
theorem lists_at {n : Nm} {F : Hp} : ∀ {ll : List (List Int)} {xs : List V}, Rps n F (ll.map lsD) xs → ∃ ps : List (Addr × List Int), xs = ps.map (fun p => V.ref p.1) ∧ ll = ps.map (·.2) ∧ ∀ p ∈ ps, F p.1 = some (.lst (p.2.map V.int))
  | [], xs, h => ⟨[], h, rfl, fun p hp => by cases hp⟩
  | c :: ll, xs, ⟨v, r, e, h1, h2⟩ => by
    obtain ⟨b, ys, e1, hb, h3⟩ := h1
    have e3 := Rps.ints h3
    subst e3
    obtain ⟨ps, e2, e4, h4⟩ := lists_at (ll := ll) h2
    subst e; subst e1; subst e2; subst e4
    refine ⟨(b, c) :: ps, rfl, rfl, fun p hp => ?_⟩
    rcases List.mem_cons.mp hp with rfl | hp
    · exact hb
    · exact h4 p hp
/-- what a callee that knew of no lists tells of lists is new -/
theorem newL {n : Nm} {F F' H H' : Hp} (x : Ext n (noL F) F') (x' : Ext n F' H') (nw : ∀ a o, F' a = some o → Nw (noL F) H a o) {b : Addr} {xs : List V} (hb : F' b = some (.lst xs)) : H b = none ∧ H' b = some (.lst xs) := by
  rcases nw b _ hb with ⟨o0, q⟩ | q | ⟨ys, e, q⟩
  · obtain ⟨o', e', l⟩ := x b o0 q
    rw [hb] at e'
    cases e'
    rcases l with rfl | ⟨_, _, _, _, _, w, _⟩
    · exact absurd q noL_lst
    · cases w
  · exact ⟨q, x'.lst hb⟩
  · cases e
theorem Nb.fresh {z : Z} {F : Hp} {σ : L2.St} {H : Hp} {S : SS} {i : Nat} {u : V} {b : Addr} (r : Rep z F σ H S) (h : H b = none) : Nb z F (σ.set i (some u)) (setS S i .free) b := ⟨r.ext.free h, r.old h, fun j c hj ej => by
  rcases setS_get hj with ⟨_, w⟩ | ⟨ne, hj'⟩
  · cases w
  · rw [st_set, if_neg (fun w => ne w.symm)] at ej
    obtain ⟨a, e1, _, _, c1⟩ := r.sl j _ hj'
    rw [ej] at e1; cases e1
    obtain ⟨o, ho, _⟩ := c1.ex
    rw [h] at ho; cases ho⟩
section
variable {X : Cx} {z : Z} {i : Nat} {rest : List Stmt} {CX : CXT} {k : Nat} {f : Addr} {fd : FuncData} {ps : List Str} {φ : SpD} {dvs : List V} {dv : List D} {ds : List Value} {E : XK} {x : Str} {p pos pos2 : Pos} {e : Expr} {es : List Expr} {fa : DA}
theorem jb_thL {n1 : Expr} {g : DQL} (F : FnOk X.prog X.w X.K X.mg X.base CX k f fd ps (spOf z.n φ)) (hr : Room k X.A) (hg : Gl X x) (hm : X.mg x = some (.ref f)) (hk : PySem.W.keepIn X.K (.ref f) = true) (hb : Binds X.K fd ps ds) (hd : Vals dvs ds) (hx : Passes CX X E) (hdv : ∀ (_ : Unit) F, Rps z.n F dv dvs)
    (ha : JA X z (e :: es) fa) (hn : PG X n1 (gName i)) (pi : z.pr i = none) (h2 : JQL X z i rest g) (hdb : (x == ("__debug__" : Str)) = false := by decide) (he : starEach (e :: es) X.env = (false, eval e X.env) :: starEach es X.env := by rfl) (hpl : (backTo pos2 (starEach es X.env)).any (·.1) = false := by rfl)
    (hs : swapsWithSole [n1] (.Call (.Name x p) (e :: es) [] pos2) pos.line X.env = pure false := by rfl) (hw : swappedStores [n1] (.Call (.Name x p) (e :: es) [] pos2) X.env = pure none := by rfl) (h3 : (assignEach [n1] X.env).map (·.2) = [assign n1 X.env] := by rfl) :
    JB X z (.Assign [n1] (.Call (.Name x p) (e :: es) [] pos2) pos :: rest) (dThL i φ dv fa g) :=
  JB.of (pss_cons (ps_asg (pe_call F hr hg hm hk hb hd hx ha hdb he hpl) hn hs hw h3) h2) fun F0 σ H S D r hf => tA.use r hf fun vs H1 F1 S1 as x1 r1 h1 ⟨no, q⟩ => by
    obtain ⟨ars, os, a1, ⟨nl, q2⟩, _, _⟩ := res_ok r1 h1 q
    obtain ⟨_, a2⟩ := a1.noL nl
    refine ⟨noL F1, ars ++ allVal dv, [], _, noL_ext.trans r1.ext, a2.app (hdv () _), List.nodup_nil, q2, fun v H' F' rr cs x x' nw kp hc hr ⟨ll, e, hl, q⟩ => ?_⟩
    have kp' : ∀ a o, H1 a = some o → H' a = some o := fun a o e => kp a o e (by simp)
    have got : ∃ a xs, v = .ref a ∧ H1 a = none ∧ H' a = some (.lst xs) ∧ Rps z.n F' (ll.map lsD) xs := by
      rcases e with rfl | rfl
      · obtain ⟨a, ev, _, hn, xs, hx, rx⟩ := hr
        exact ⟨a, xs, ev, hn, hx, rx⟩
      · obtain ⟨a, xs, ev, fa, rx⟩ := hr
        obtain ⟨h4, h5⟩ := newL x x' nw fa
        exact ⟨a, xs, ev, h4, h5, rx⟩
    obtain ⟨a, xs, rfl, hn, hxs, rx⟩ := got
    obtain ⟨qs, rfl, rfl, at1⟩ := lists_at rx
    have r2 := (r1.later kp').setSlot pi (.ref a) .free (fun _ => trivial) (fun c w => by cases w)
    exact ⟨F1, _, D, _, r2, ⟨⟨a, qs, rfl, by rw [st_set, if_pos rfl, if_pos (by rw [r1.len]; exact hl)], hxs, Nb.fresh r1 hn, fun p hp => ⟨Nb.fresh r1 (newL x x' nw (at1 p hp)).1, (newL x x' nw (at1 p hp)).2⟩⟩⟩, q, .up x1⟩
end
section
variable {X : Cx} {z : Z} {i y : Nat} {rest : List Stmt} {g : DS}
theorem jpL_mess {yn yn2 xn xn2 e1 e2 : Expr} {w1 w2 : V} {ap1 ap2 cp1 cp2 p0 p1 p2 : Pos} (hz : z.n.K = X.K) (hp : PassesOwn (model X.prog X.w) X.A X.env X.xe) (hc : X.calm = true) (hx : PE X xn (tVar i)) (hx2 : PE X xn2 (tVar i)) (hg : PG X yn (gName y)) (hy : PE X yn2 (tVar y)) (he1 : PE X e1 (tC w1)) (he2 : PE X e2 (tC w2))
    (py : z.pr y = none) (yi : y ≠ i) (pa : PlainAttrs "list") (slot : PySem.Slot "list" "append" "list.append") (hty : typeOf (.builtin "list.append") = pure (.type "method_descriptor")) (hb : JB X z rest g)
    (hbase1 : attributeBase yn2 "append" X.env (eval yn2 X.env) = eval yn2 X.env := by rfl) (hbase2 : attributeBase xn2 "append" X.env (eval xn2 X.env) = eval xn2 X.env := by rfl)
    (hfew1 : ((backTo cp1 (starEach [e1] X.env)).all (fun x => !x.1) && (backToKw cp1 (keywordEach [] X.env)).all (fun x => x.1.isSome)
      && decide (([e1] : List Expr).length + ([] : List Keyword).length + (if ([] : List Keyword).isEmpty then 0 else 1) < 30)) = true := by rfl)
    (hfew2 : ((backTo cp2 (starEach [e2] X.env)).all (fun x => !x.1) && (backToKw cp2 (keywordEach [] X.env)).all (fun x => x.1.isSome)
      && decide (([e2] : List Expr).length + ([] : List Keyword).length + (if ([] : List Keyword).isEmpty then 0 else 1) < 30)) = true := by rfl)
    (hl1 : (ap1.endLine == cp1.line) = true := by rfl) (hl2 : (ap2.endLine == cp2.line) = true := by rfl)
    (hs1 : starEach [e1] X.env = (false, eval e1 X.env) :: starEach [] X.env := by rfl) (hs2 : starEach [e2] X.env = (false, eval e2 X.env) :: starEach [] X.env := by rfl)
    (hq1 : (backTo cp1 (starEach [] X.env)).any (·.1) = false := by rfl) (hq2 : (backTo cp2 (starEach [] X.env)).any (·.1) = false := by rfl)
    (hs : ∀ x, foldedSetIterable xn X.env x = pure x := by intro _; rfl) :
    JQL X z i (.For yn xn [.Expr (.Call (.Attribute yn2 "append" ap1) [e1] [] cp1) p1] [] p0 :: .Expr (.Call (.Attribute xn2 "append" ap2) [e2] [] cp2) p2 :: rest) (pMess y g) :=
  JQL.of (pss_cons (ps_for hp hc (pi_list hx) hg (pss_one (ps_expr (pe_bm pa slot hty mt_append hy (pa_cons he1 pa_nil hs1) hbase1 hfew1 hl1 hs1 hq1))) hs) (pss_cons (ps_expr (pe_bm pa slot hty mt_append hx2 (pa_cons he2 pa_nil hs2) hbase2 hfew2 hl2 hs2 hq2)) hb)) fun F σ H S E ll r hd ⟨hlen, hlen2, hyl, hf⟩ => by
    obtain ⟨a, ps, rfl, e0, h0, n0, h1⟩ := hd.ex
    rw [List.length_map] at hlen2
    have hlen : ∀ p ∈ ps, p.2.length + ps.length < sizeLine := fun p hp => by
      have := hlen p.2 (List.mem_map.mpr ⟨p, hp, rfl⟩)
      rwa [List.length_map] at this
    have na : ∀ p ∈ ps, p.1 ≠ a := fun p hp e => by
      have h2 := (h1 p hp).2
      rw [e, h0] at h2
      obtain ⟨q, qs, rfl⟩ : ∃ q qs, ps = q :: qs := by
        cases ps with
        | nil => cases hp
        | cons q qs => exact ⟨q, qs, rfl⟩
      have h3 : ((q :: qs).map fun p => V.ref p.1) = p.2.map V.int := by
        have := Option.some.inj h2
        injection this
      cases hc : p.2 with
      | nil => rw [hc] at h3; cases h3
      | cons n ns => rw [hc] at h3; cases h3
    have nS : ∀ {σ1 : L2.St}, (∀ j, j ≠ y → σ1[j]? = σ[j]?) → ∀ {b : Addr}, Nb z F σ S b → Nb z F σ1 (setS S y .free) b := fun {σ1} hσ {b} n => ⟨n.out, n.new, fun j c hj ej => by
      rcases setS_get hj with ⟨_, w⟩ | ⟨ne, hj'⟩
      · cases w
      · rw [hσ j ne] at ej
        exact n.ne j c hj' ej⟩
    refine ⟨.ref a, e0, a, rfl, ⟨_, SqL.of h0⟩, ?_⟩
    refine ⟨fun k m σ1 H1 => m = ps.length - k ∧ k ≤ ps.length ∧ Rep z F σ1 H1 (setS S y .free) ∧ (∀ j, j ≠ y → σ1[j]? = σ[j]?) ∧ σ1.length = σ.length ∧ H1 a = some (.lst (ps.map fun p => V.ref p.1)) ∧ ∀ p ∈ ps, ∃ its, H1 p.1 = some (.lst its) ∧ its.length ≤ p.2.length + k, ⟨_, rfl, Nat.zero_le _, r.setFree, fun _ _ => rfl, rfl, h0, fun p hp => ⟨_, (h1 p hp).2, by simp⟩⟩, ?_⟩
    rintro k m σ1 H1 ⟨rfl, hk, r1, hσ, hsl, ha, hit⟩
    have e1 : σ1[i]? = some (some (.ref a)) := by rw [hσ i (Ne.symm yi)]; exact e0
    by_cases hl : k = ps.length
    · refine .inl ⟨⟨_, SqL.of ha, by simp [hl]⟩, ?_⟩
      refine ⟨.ref a, e1, .inl ⟨rfl, _, SqL.of ha⟩, ?_⟩
      refine ⟨a, _, w2, rfl, rfl, ha, by rw [List.length_map]; exact hlen2, ?_⟩
      have nb := nS hσ n0
      exact ⟨F, _, E, r1.other nb.out nb.new nb.ne, hf, .refl⟩
    · have hk' : k < ps.length := by omega
      have ek : ps[k]? = some ps[k] := List.getElem?_eq_getElem hk'
      have ev : (ps.map fun p => V.ref p.1)[k]? = some (V.ref ps[k].1) := by rw [List.getElem?_map, ek]; rfl
      have hm : ps[k] ∈ ps := List.getElem_mem hk'
      refine .inr ⟨⟨_, _, SqL.of ha, ev⟩, fun σ2 H2 => Rep z F σ2 H2 (setS S y .free) ∧ (∀ j, j ≠ y → σ2[j]? = σ[j]?) ∧ σ2.length = σ.length ∧ H2 a = some (.lst (ps.map fun p => V.ref p.1)) ∧ ∀ p ∈ ps, ∃ its, H2 p.1 = some (.lst its) ∧ its.length ≤ p.2.length + (k + 1), fun σ2 H2 w => ⟨_, by omega, rfl, by omega, w⟩, ?_⟩
      rintro v H2 ⟨rfl, hv⟩
      have hv := hv _ (SqL.of ha)
      rw [ev] at hv
      cases hv
      obtain ⟨its, hI, lI⟩ := hit _ hm
      have ly : y < σ1.length := by rw [hsl, r.len]; exact hyl
      have r2 := r1.setSlot py (.ref ps[k].1) .free (fun _ => trivial) (fun c w => by cases w)
      rw [setS_set] at r2
      have hσ2 : ∀ j, j ≠ y → (σ1.set y (some (.ref ps[k].1)))[j]? = σ[j]? := fun j hj => by rw [st_set, if_neg (Ne.symm hj)]; exact hσ j hj
      have nb := nS hσ2 (h1 _ hm).1
      refine ⟨.ref ps[k].1, by rw [st_set, if_pos rfl, if_pos ly], .inl ⟨rfl, _, SqL.of hI⟩, ?_⟩
      refine ⟨ps[k].1, _, w1, rfl, rfl, hI, by have := hlen _ hm; omega, ?_⟩
      refine ⟨r2.other nb.out nb.new nb.ne, hσ2, by rw [List.length_set]; exact hsl, by rw [upd_ne (Ne.symm (na _ hm))]; exact ha, fun p hp => ?_⟩
      by_cases hq : p.1 = ps[k].1
      · obtain ⟨its2, hI2, lI2⟩ := hit p hp
        rw [hq, hI] at hI2
        cases hI2
        exact ⟨_, by rw [hq]; exact upd_same, by rw [List.length_append]; show its.length + 1 ≤ _; omega⟩
      · obtain ⟨its2, hI2, lI2⟩ := hit p hp
        exact ⟨its2, by rw [upd_ne hq]; exact hI2, by omega⟩
end
end DL

namespace DL
open PySem L2 PySem.Spec PyProof.Rows
@[reducible] def flatD : D → Prop
  | .non => True
  | .bl _ => True
  | .int _ => True
  | .str _ => True
  | _ => False
theorem flat_rp {n : Nm} {F F' : Hp} : ∀ {d : D} {v : V}, flatD d → Rp n F d v → Rp n F' d v
  | .non, _, _, r => r
  | .bl _, _, _, r => r
  | .int _, _, _, r => r
  | .str _, _, _, r => r
def dPeekE (f : DE) : DE := fun S R => f (seen S) fun d _ => flatD d ∧ R d S
theorem je_peekE {X : Cx} {z : Z} {e : Expr} {f : DE} (hc : ∀ F0 H0, JE X ⟨z.n, F0, H0, prNo⟩ e f) : JE X z e (dPeekE f) :=
  ⟨fun pins s σ H Q I ⟨F, S, R, r, hf, k⟩ => (hc H H).run pins s σ H Q I ⟨H, _, fun d _ => flatD d ∧ R d S, r.seen, hf, fun v H' ⟨F', S', d, x, r', h, fl, q⟩ =>
    k v H' ⟨F, S, d, Ext.refl, r.later (fun a o e => r'.keep a o e (fun i w => (by cases w))), flat_rp fl h, q⟩⟩⟩
@[reducible] def plainR : Rs → Prop
  | .val d => flatD d
  | .own c => ∃ ns : List Int, c = .lst (ns.map .int)
  | .two d l => flatD d ∧ ∃ ns : List Int, l = ns.map .int
section
variable {z : Z} {F F' : Hp} {σ : L2.St} {H H' : Hp} {S S' : SS} {v : V}
theorem Rep.none_of (r : Rep z F σ H S) (x : Ext z.n H F') {a : Addr} (h : F' a = none) : F a = none := r.ext.free (x.free h)
theorem Fresh.plain (r : Rep z F σ H S) (x : Ext z.n H F') {a : Addr} {ns : List Int} (fr : Fresh ⟨z.n, H, H, prNo⟩ σ F' H' S' (.lst (ns.map .int)) a) : Fresh z σ F H' S (.lst (ns.map .int)) a := by
  have hn : H a = none := fr.new
  obtain ⟨xs, h1, h2⟩ := fr.ct
  have e := Rps.ints h2
  subst e
  refine ⟨r.none_of x fr.out, r.old hn, ⟨_, h1, Rps.of_ints ns⟩, fun j c' hj ej => ?_⟩
  obtain ⟨a', e1, _, _, c1⟩ := r.sl j _ hj
  rw [ej] at e1; cases e1
  obtain ⟨o, ho, _⟩ := c1.ex
  rw [hn] at ho; cases ho
theorem RsOk.plain (r : Rep z F σ H S) (x : Ext z.n H F') : ∀ {rr : Rs}, plainR rr → RsOk ⟨z.n, H, H, prNo⟩ F' σ H' S' v rr → RsOk z F σ H' S v rr
  | .val d, pl, ok => flat_rp pl ok
  | .own c, ⟨ns, e⟩, ⟨a, ev, fr⟩ => by
    subst e
    exact ⟨a, ev, fr.plain r x⟩
  | .two d l, ⟨fl, ns, e⟩, ⟨a, b, v1, ev, ha, fa, h1, fr⟩ => by
    subst e
    exact ⟨a, b, v1, ev, ha, r.none_of x fa, flat_rp fl h1, fr.plain r x⟩
end
def rPeek (f : DR) : DR := fun S R => f (seen S) fun r _ => plainR r ∧ R r S
theorem jr_peek {X : Cx} {z : Z} {e : Expr} {f : DR} (hc : ∀ F0 H0, JR X ⟨z.n, F0, H0, prNo⟩ e f) : JR X z e (rPeek f) :=
  ⟨fun pins s σ H Q I ⟨F, S, R, r, hf, k⟩ => (hc H H).run pins s σ H Q I ⟨H, _, fun rr _ => plainR rr ∧ R rr S, r.seen, hf, fun v H' ⟨F', S', rr, x, r', ok, pl, q⟩ =>
    k v H' ⟨F, S, rr, Ext.refl, r.later (fun a o e => r'.keep a o e (fun i w => (by cases w))), RsOk.plain r x pl ok, q⟩⟩⟩
def rCallW (n m : Nat) (φ : SpD) (ix : List Nat) (f : DA) (g : DV) : DR := fun S R => f S fun as S1 => g S1 fun ds S2 => as.length = n ∧ ds.length = m ∧ le1 (ownR S2 as) ∧ res S2 as fun ars => φ (ars ++ allVal (pick ix ds)) fun r cs => R r (putR S2 (ownR S2 as) cs)
section
variable {X : Cx} {z : Z} {CX : CXT} {k n : Nat} {f : Addr} {fd : FuncData} {ps ks : List Str} {ix : List Nat} {φ : SpD} {E : XK} {x : Str} {p pos : Pos} {e : Expr} {es : List Expr} {kws : List Keyword} {fa : DA} {fk : DV}
theorem jr_callW (F : FnOk X.prog X.w X.K X.mg X.base CX k f fd ps (spOf z.n φ)) (hr : Room k X.A) (hg : Gl X x) (hm : X.mg x = some (.ref f)) (hk : PySem.W.keepIn X.K (.ref f) = true) (hb : KwB X.K fd ps n ks ix) (hx : Passes CX X E)
    (ha : JA X z (e :: es) fa) (hkw : JK X z kws fk) (hall : (backToKw pos (keywordEach kws X.env)).all (·.1.isSome) = true := by rfl) (hks : (backToKw pos (keywordEach kws X.env)).filterMap (·.1) = ks := by rfl)
    (hdb : (x == ("__debug__" : Str)) = false := by decide) (he : starEach (e :: es) X.env = (false, eval e X.env) :: starEach es X.env := by rfl)
    (hpl : ((backTo pos (starEach (e :: es) X.env)).any (·.1) || (backToKw pos (keywordEach kws X.env)).any (·.1.isNone)) = false := by rfl) {j : Nat} (hj : ks.length = j := by rfl) :
    JR X z (.Call (.Name x p) (e :: es) kws pos) (rCallW n j φ ix fa fk) := hj ▸
  JR.of (pe_callW F hr hg hm hk hb hx ha hkw hall hks hdb he hpl) fun F σ H S R r hf => tA.use r hf fun vs H1 F1 S1 as x1 r1 h1 q => tV.use r1 q fun zs H2 F2 S2 ds x2 r2 h2 ⟨el0, el, l1, q2⟩ => ⟨by rw [AOks.length h1]; exact el0, by rw [h2.length]; exact el, call_use (h2.pick ix) r2 (AOks.mono x2 h1) l1 q2 fun v H' F' rr cs x r' ok q' =>
    ⟨F', _, rr, (x1.trans x2).trans x, r', ok, q'⟩⟩
end
theorem each_zip {h : Heap} : ∀ {ds : List PyData} {xs : List V} {its : List Value} {as : List Addr}, ReadsAll h its ds as → Vals xs its → PySem.W.EachIs (fun v (b : PyData × V) => RelV b.2 v) its (ds.zip xs) ∧ PySem.W.EachIs (fun v (b : PyData × V) => ∃ as, Reads h v b.1 as) its (ds.zip xs)
  | [], xs, its, as, r, q => by
    have r' : ReadsAll h its [] as := r
    cases r'
    exact ⟨.nil, .nil⟩
  | d :: ds, xs, its, as, r, q => by
    have r' : ReadsAll h its (d :: ds) as := r
    cases r' with
    | cons h1 h2 =>
      cases q with
      | cons a b =>
        obtain ⟨e1, e2⟩ := each_zip h2 b
        exact ⟨.cons a e1, .cons ⟨_, h1⟩ e2⟩
theorem vals_each : ∀ {out : List Value} {L : List (PyData × V)}, PySem.W.EachIs (fun v (b : PyData × V) => RelV b.2 v) out L → Vals (L.map (·.2)) out
  | _, _, .nil => .nil
  | _, _, .cons a b => .cons a (vals_each b)
theorem dpAll_len {K : PySem.W.Frag} {H : Hp} : ∀ {xs : List V} {ds : List PyData}, DpAll K H xs ds → xs.length = ds.length
  | _, _, .nil => rfl
  | _, _, .cons _ b => congrArg (· + 1) (dpAll_len b)
def rSortedD (K : PySem.W.Frag) : List V → Hp → VK → Prop := fun vs H Q => ∃ (a : Addr) (xs : List V) (ds : List PyData), vs = [V.ref a] ∧ SqL K H a xs ∧ DpAll K H xs ds ∧ PySem.W.AllAlike ds ∧ PySem.W.Sortable ds ∧ (∀ d ∈ ds, d.depth ≤ 20) ∧
  ∀ p, H p = none → Q (.ref p) (upd H p (.lst (((ds.zip xs).mergeSort (PySem.W.dataLe false fun b => b.1)).map (·.2))))
theorem cr_sortedD {X : Cx} (hu : X.A.units + 64 < cLine) : CallR X (.builtin "sorted") (rSortedD X.K) := by
  intro pins s σ H vs us Q I r ⟨a, xs, ds, ev, hs, hd, al, so, dp, q⟩
  subst ev
  have ⟨its, rv, held, few⟩ := I.list hs
  obtain ⟨u, rfl, ru⟩ := vals1 r
  obtain rfl : u = Value.ref a := ru
  obtain ⟨as, rd⟩ := Dp.readsAll I ds xs its hd rv
  obtain ⟨e1, e2⟩ := each_zip rd rv
  have ln : ds.length = xs.length := (dpAll_len hd).symm
  have fz : (ds.zip xs).map (·.1) = ds := List.map_fst_zip (by omega)
  have lz : (ds.zip xs).length = xs.length := by rw [List.length_zip]; omega
  refine PySem.W.sorted_data (enc := fun b : PyData × V => b.1) (bs := ds.zip xs) (vs := its) held.isList e1 e2 (by rw [fz]; exact al) (by rw [fz]; exact so) (by omega) (fun b hb => ?_) fun out hl ho => ?_
  · have : b.1 ∈ ds := fz ▸ List.mem_map.mpr ⟨b, hb, rfl⟩
    have := dp _ this
    omega
  · have ⟨n, hn⟩ := sortedAll_at s.heap its out.toArray
    refine ⟨.ref (s.heap.objs.size + 1), upd H (s.heap.objs.size + 1) (.lst (((ds.zip xs).mergeSort (PySem.W.dataLe false fun b => b.1)).map (·.2))), I.laid (t' := s.toks) (fun b o e => sortedAll_old e) (Nat.le_succ _) ⟨?_, out, n, vals_each ho, hn⟩, rfl, q _ (I.hok.fresh (Nat.le_succ _))⟩
    rw [List.length_map, List.length_mergeSort]
    omega
/-- one thing not behind another -/
def leD (a b : D) : Bool := PySem.W.dataLe false toP a b
def gSortD : GN := fun ds k => on1 (onLS fun l => (∀ d ∈ l, eqOk 20 d) ∧ PySem.W.AllAlike (l.map toP) ∧ PySem.W.Sortable (l.map toP) ∧ k (.lst (l.mergeSort leD))) ds
theorem rps_pairs {n : Nm} {F : Hp} : ∀ {L : List (D × V)}, (∀ p ∈ L, Rp n F p.1 p.2) → Rps n F (L.map (·.1)) (L.map (·.2))
  | [], _ => rfl
  | p :: L, h => ⟨_, _, rfl, h p List.mem_cons_self, rps_pairs fun q hq => h q (List.mem_cons_of_mem _ hq)⟩
theorem rps_zip {n : Nm} {F : Hp} : ∀ {l : List D} {xs : List V}, Rps n F l xs → ∀ p ∈ l.zip xs, Rp n F p.1 p.2
  | [], _, _, p, hp => by cases hp
  | d :: l, xs, ⟨v, r, e, h1, h2⟩, p, hp => by
    subst e
    rcases List.mem_cons.mp hp with rfl | hp
    · exact h1
    · exact rps_zip h2 p hp
theorem sortD_zip {l : List D} {xs : List V} (e : xs.length = l.length) : (((toPs l).zip xs).mergeSort (PySem.W.dataLe false fun b => b.1)).map (·.2) = ((l.zip xs).mergeSort fun p q => leD p.1 q.1).map (·.2) ∧ ((l.zip xs).mergeSort fun p q => leD p.1 q.1).map (·.1) = l.mergeSort leD := by
  constructor
  · have ez : (toPs l).zip xs = (l.zip xs).map fun p => (toP p.1, p.2) := by
      rw [toPs_map, List.zip_map_left]
      rfl
    have em : ((l.zip xs).mergeSort fun p q => leD p.1 q.1).map (fun p => (toP p.1, p.2)) = ((l.zip xs).map fun p => (toP p.1, p.2)).mergeSort (PySem.W.dataLe false fun b => b.1) := List.map_mergeSort fun a _ b _ => rfl
    rw [ez, ← em, List.map_map]
    rfl
  · rw [List.map_mergeSort (s := leD) fun a _ b _ => rfl, List.map_fst_zip (by omega)]
section
variable {X : Cx} {z : Z}
theorem cd_sortD (hz : z.n.K = X.K) (hu : X.A.units + 64 < cLine) : CallD X z (.builtin "sorted") gSortD := ⟨⟨_, cr_sortedD hu, fun {F σ H S vs ds R} r rv q => by
  obtain ⟨d, rfl, q0⟩ := on1.get q
  obtain ⟨v, rfl, w1⟩ := rv.one
  obtain ⟨l, hd, ok, al, so, q1⟩ := onLS.get q0
  obtain ⟨a, xs, rfl, h1, s1⟩ := w1.list r.ext hd
  have dp := dps_of r.ext l 20 ok s1
  obtain ⟨z1, z2⟩ := sortD_zip s1.length
  refine ⟨a, xs, toPs l, rfl, hz ▸ h1, hz ▸ dp, by rw [toPs_map]; exact al, by rw [toPs_map]; exact so, fun p hp => ?_, fun p hn => ?_⟩
  · rw [toPs_map] at hp
    obtain ⟨d', hd', rfl⟩ := List.mem_map.mp hp
    exact (eqOk_shaped (ok d' hd')).2
  · rw [z1]
    have s2 : Rps z.n F (l.mergeSort leD) (((l.zip xs).mergeSort fun p q => leD p.1 q.1).map (·.2)) := by
      rw [← z2]
      exact rps_pairs fun p hp => rps_zip s1 p (List.mem_mergeSort.mp hp)
    exact ⟨_, S, .lst (l.mergeSort leD), Ext.new (r.ext.free hn), r.lay _ hn, ⟨p, _, rfl, upd_same, s2.mono (Ext.new (r.ext.free hn))⟩, q1⟩⟩⟩
end
end DL

namespace DL
open PySem L2 PySem.Spec PyProof.Rows
/-- a promise where the surroundings are of a kind -/
structure FnA (G : Around → Prop) (P : Program) (w : World) (K : PySem.W.Frag) (mg : Str → Option Value) (base : Heap) (k : Nat) (f : Addr) (fd : FuncData) (ps : List Str) (sp : Sp) : Prop where
  len : ∀ vs H Q E, sp vs H Q E → vs.length = ps.length
  run : ∀ (A : Around) (outer : List Env) (s : Shared) (H : Hp) (args : Args) (us : List Value) (vs : List V) (Q : VK) (E : XK), G A → Room k A → Env0 P w K mg base A outer s H → BindsTo s fd args (ps.zip us) → Vals vs us → sp vs H Q E →
    codeAny (model P w) A (.call (.ref f) args) (CR CX0 outer P w H s Q E) s
def noG (A : Around) : Prop := A.guards = some []
section
variable {P : Program} {w : World} {K : PySem.W.Frag} {mg : Str → Option Value} {base : Heap} {x qual : Str} {st : Stmt} {f : Addr} {fd : FuncData} {N ps : List Str} {k : Nat} {n : Nm} {g : DS}
/-- a def's body, run once -/
theorem Fun.okA {G : Around → Prop} {sp : Sp} (hG : ∀ A env, G A → G (A.deeper env)) (F : Fun K x qual st f fd) (S : FnScope N ps (defScope st)) (len : ∀ vs H Q E, sp vs H Q E → vs.length = ps.length)
    (hbody : ∀ (cdv : Value) (A : Around) (outer : List Env) (s : Shared) (H : Hp) (vs : List V) (Q : VK) (E : XK), G (A.deeper (envOfC qual (defScope st) s.heap.objs.size f cdv)) → Room k (A.deeper (envOfC qual (defScope st) s.heap.objs.size f cdv)) → sp vs H Q E →
      ∃ t, PSs (cxOf CX0 P w K mg base N qual (defScope st) f cdv A outer s H E) (defBody st) t ∧ t { nx := fun _ H' => Q .non H', rt := Q } (start N vs) H) : FnA G P w K mg base (k + 1) f fd ps sp := by
  obtain ⟨oc, od, kV, doc, pm, an, cdv, ct, osl, rfl, lk, hcd⟩ := F.ex
  constructor
  · exact len
  intro A outer s H args us vs Q E hG' hr e0 hb r hsp
  have up : ∀ b o, base.get? b = some o → s.heap.get? b = some o := fun b o e => (e0.bs b o e).1
  have KX : K.In s.heap := e0.mod.kin.keeps up
  have kinds : ∀ y ∈ ps.zip us, (defScope st).names.lookup y.1 = some .local ∨ ((defScope st).names.lookup y.1 = some .cell ∧ ((cellsFrom (s.heap.objs.size + 1) (defScope st).names []).lookup y.1).isSome = true) := by
    rintro ⟨a, v⟩ hy
    exact (S.par a (List.of_mem_zip hy).1).imp id fun q => ⟨q, PySem.W.cellsFrom_some _ _ _ (.inl q)⟩
  obtain ⟨t, ht, hq⟩ := hbody cdv A outer s H vs Q E (hG _ _ hG') (hr.deeper _) hsp
  refine codeAny_call_function hr.depth (KX _ _ lk) rfl S.co S.gen rfl (PySem.W.codeRec_of KX hcd) (hb _ _ _ _ (wpAny_newFunctionEnv_cells S.kind kinds ?_))
  rintro env rfl s1 x1
  refine ⟨(e0.mod.nolimit.keeps up).keeps x1.toInCall.keep, codeAny_func (wpAny_mono (ht.run [] s1 (start N vs) H _ (inv_start S hr.hd e0 (len _ _ _ _ hsp) r x1) hq) ?_ fun _ _ h => h)⟩
  intro fl s' hs
  cases fl with
  | ret u =>
    obtain ⟨v, _, H', J, rv, q⟩ := hs
    exact ⟨v, H', J.os, J.bare, J.base, J.hok, rv, q⟩
  | next =>
    obtain ⟨_, H', J, q⟩ := hs
    exact ⟨V.non, H', J.os, J.bare, J.base, J.hok, rfl, q⟩
  | brk => exact hs.elim fun _ h => h.elim fun _ h => h.2.elim
  | cont => exact hs.elim fun _ h => h.elim fun _ h => h.2.elim
/-- a def whose arguments are data, where no repr is under way -/
theorem fn_okG {φ : List D → (Rs → Prop) → Prop} (F : Fun K x qual st f fd) (Sc : FnScope N ps (defScope st)) (len : ∀ ds R, φ ds R → ds.length = ps.length)
    (body : ∀ (cdv : Value) (A : Around) (outer : List Env) (s : Shared) (H : Hp) (E : XK) (F0 : Hp), noG (A.deeper (envOfC qual (defScope st) s.heap.objs.size f cdv)) → Room k (A.deeper (envOfC qual (defScope st) s.heap.objs.size f cdv)) →
      JB (cxOf CX0 P w K mg base N qual (defScope st) f cdv A outer s H E).nox ⟨n, F0, H, prNo⟩ (defBody st) g)
    (sem : ∀ ds R, φ ds R → g { nx := fun _ => R (.val .non), rt := fun r _ => R r } (startS N.length ds)) : FnA noG P w K mg base (k + 1) f fd ps (spOf n (lift0 φ)) := by
  have L : ∀ vs H Q E, spOf n (lift0 φ) vs H Q E → vs.length = ps.length := fun vs H Q E ⟨F, as, os, R, _, h1, _, hh, _⟩ => by
    obtain ⟨ds, e, h2⟩ := lift0.get hh
    subst e
    rw [h1.get_vals.1.length]; exact len _ _ h2
  refine Fun.okA (fun _ _ h => h) F Sc L fun cdv A outer s H vs Q E hg hr hsp => ?_
  have J := body cdv A outer s H E hsp.choose hg hr
  have hL := L vs H Q E hsp
  obtain ⟨as, os, R, x, h1, nd, hh, hk⟩ := hsp.choose_spec
  obtain ⟨ds, e, h2⟩ := lift0.get hh
  generalize hsp.choose = F0 at *
  subst e
  obtain ⟨hd, eo⟩ := h1.get_vals
  subst eo
  refine ⟨_, PSs.nox J, F0, startS N.length ds, _, Rep.start0 x hd (by rw [hL]; exact (FnScope_le Sc)), sem ds _ h2, ⟨fun σ' H' ⟨F', S', x', r', q⟩ => ?_, fun v H' ⟨F', σ', S', rr, x', r', ok, q⟩ => ?_, fun σ' H' ⟨F', S', x', r', q⟩ => q.elim, fun σ' H' ⟨F', S', x', r', q⟩ => q.elim⟩⟩
  · exact hk _ H' F' (.val .non) [] x' r'.ext r'.new (fun a o h _ => r'.keep a o h fun i e => by cases e) rfl rfl q
  · refine hk _ H' F' rr [] x' r'.ext r'.new (fun a o h _ => r'.keep a o h fun i e => by cases e) rfl ?_ q
    cases rr with
    | val d => exact ok
    | own c =>
      obtain ⟨a, e, fr⟩ := ok
      exact ⟨a, e, fr.out, fr.new, fr.ct⟩
    | two d l =>
      obtain ⟨a, b, v1, e, h1, f1, r1, fr⟩ := ok
      exact ⟨a, b, v1, e, h1, f1, r1, fr.out, fr.new, fr.ct⟩
end
def rReprD (K : PySem.W.Frag) : List V → Hp → VK → Prop := fun vs H Q => ∃ (a : Addr) (d : PyData), vs = [V.ref a] ∧ Dp K H (V.ref a) d ∧ d.showable = true ∧ d.hasDict = false ∧ d.depth ≤ 20 ∧ d.shown.length ≤ sizeLine ∧ Q (.str d.shown) H
theorem cr_reprD {X : Cx} (hg : noG X.A) (hu : X.A.units + 64 < cLine) : CallR X (.builtin "repr") (rReprD X.K) := by
  rintro pins s σ H vs us Q I r ⟨a, d, rfl, dp, sh, nd, de, sz, q⟩
  obtain ⟨u, rfl, ru⟩ := vals1 r
  obtain rfl : u = Value.ref a := ru
  obtain ⟨as, rd⟩ := Dp.reads I d (.ref a) _ dp rfl
  refine repr_of_reads' rd sh (PyData.noDict_hsm nd) hg (by omega) (fun _ _ h => h) (fun h' u tk k => ⟨.str d.shown, H, I.kept k, ⟨u, rfl⟩, q⟩) sz
/-- lists and tuples -/
@[reducible] def seqD : D → Prop
  | .lst _ => True
  | .tup _ => True
  | _ => False
def gRepr : GN := fun ds k => on1 (fun d => seqD d ∧ eqOk 20 d ∧ (toP d).showable = true ∧ (toP d).shown.length ≤ sizeLine ∧ k (.str (toP d).shown)) ds
section
variable {X : Cx} {z : Z}
theorem cd_reprD (hz : z.n.K = X.K) (hg : noG X.A) (hu : X.A.units + 64 < cLine) : CallD X z (.builtin "repr") gRepr := ⟨⟨_, cr_reprD hg hu, fun {F σ H S vs ds R} r rv q => by
  obtain ⟨d, rfl, sq, ok, sh, sz, q0⟩ := on1.get q
  obtain ⟨v, rfl, w1⟩ := rv.one
  have ⟨cl, de⟩ := eqOk_shaped ok
  obtain ⟨a, rfl, dp⟩ : ∃ a, v = .ref a ∧ Dp z.n.K H (.ref a) (toP d) := by
    cases d with
    | lst l =>
      obtain ⟨a, xs, rfl, h1, s1⟩ := w1.list r.ext (.inl rfl)
      exact ⟨a, rfl, .lst h1 (dps_of r.ext l 19 (by simpa [eqOk] using ok) s1)⟩
    | tup l =>
      have dp := dp_of r.ext (.tup l) 20 ok w1
      obtain ⟨a, _, rfl, _⟩ := w1
      exact ⟨a, rfl, dp⟩
    | _ => exact sq.elim
  exact ⟨a, toP d, rfl, hz ▸ dp, sh, PyData.hasDict_of_canLay _ cl, de, sz, F, S, .str (toP d).shown, .refl, r, rfl, q0⟩⟩⟩
end
section
variable {P : Program} {w : World} {K : PySem.W.Frag} {mg mb : Str → Option Value} {k : Nat} {fa a : Addr} {fd : FuncData} {x : Str} {sp : Sp} {s₁ : Shared} {vs : List Value} {ns : List Int}
/-- what stands at the script -/
structure Scr (K : PySem.W.Frag) (P : Program) (w : World) (H : Hp) (h : Heap) (a : Addr) (ns : List Int) : Prop where
  only : Only H
  sq : SqL K H a (ns.map V.int)
  ok : HOk P w H h
  at1 : ∀ b, H b ≠ none → b = a
  own : H a ≠ none → K.lookup a = none
theorem law_callA (KX : K.In s₁.heap) (hns : s₁.heap.Ns mainGlobals mg) (hb : s₁.heap.Ns builtinsNs mb) (hbb : ∀ x : Str, x ≠ "__name__" → mb x = bootBuiltins x) (hlim : s₁.heap.NoLimit) (hg : s₁.gens = #[])
    (ha : s₁.heap.get? a = some { cls := .type "list", data := .seq vs.toArray }) (hi : IntsAre vs ns) (hl : ns.length ≤ sizeLine) (hr : Room k callerA)
    (F : ∀ base : Heap, K.In base → base.Ns mainGlobals mg → FnA noG P w K mg base k fa fd [x] sp) (hbind : ∀ (s : Shared) (u : Value), BindsTo s fd ⟨[u], []⟩ [(x, u)])
    (hsp : ∀ H : Hp, Only H → SqL K H a (ns.map V.int) → sp [.ref a] H (fun v _ => v = .bl true) fun _ _ _ => False) :
    codeAny (model P w) callerA (.call (.ref fa) ⟨[.ref a], []⟩) (fun r s' => r = .ok (.ret (.bool true)) ∧ OldK s₁.heap s'.heap ∧ s'.os = s₁.os ∧ AllBare s'.gens) s₁ := by
  have rv := vals_ints hi
  obtain ⟨H, S⟩ : ∃ H, Scr K P w H s₁.heap a ns := by
    cases hk : K.lookup a with
    | some o =>
      have e := KX a o hk
      rw [ha] at e
      cases e
      exact ⟨fun _ => none, ⟨fun _ => .inl rfl, .inr ⟨_, vs.toArray, _, hk, rfl, rfl, rfl, by rw [List.size_toArray, hi.length]; exact hl, by simpa using rv⟩, fun b u z => (by cases (show (none : Option HO) = some u from z)), fun b z => absurd rfl z, fun z => absurd rfl z⟩⟩
    | none =>
      let o : HO := .frz { cls := .type "list", data := .seq vs.toArray } (.lst (ns.map V.int))
      have at_a : ∀ b, (if b = a then some o else none) ≠ none → b = a := fun b z => Classical.byContradiction fun q => z (if_neg q)
      refine ⟨fun b => if b = a then some o else none, ⟨fun b => ?_, .inl (.inr ⟨_, if_pos rfl⟩), fun b u z => ?_, at_a, fun _ => hk⟩⟩
      · rcases Classical.em (b = a) with q | q
        · exact .inr ⟨_, _, if_pos q⟩
        · exact .inl (if_neg q)
      · obtain rfl := at_a b (by rw [show (if b = a then some o else none) = some u from z]; simp)
        obtain rfl : o = u := Option.some.inj ((if_pos rfl).symm.trans z)
        exact ⟨ha, by rw [List.length_map]; exact hl, vs, _, rv, ha⟩
  have low : ∀ {b : Addr} {o : Obj}, s₁.heap.get? b = some o → (b = a → H a = none) → (hidT s₁.heap H).get? b = some o := fun {b o} e n => hidT_get e (Classical.byContradiction fun q => by
    obtain rfl := S.at1 b q
    exact q (n rfl))
  have notA : ∀ {b : Addr} {o : Obj} {es : Array DictEntry} {ep : Nat}, s₁.heap.get? b = some o → o.data = .dict es ep → b ≠ a := fun e d q => by
    subst q
    rw [ha] at e; cases e
    cases (show Data.seq vs.toArray _ = Data.dict _ _ from d)
  have nsK : ∀ {b : Addr} {m : Str → Option Value}, s₁.heap.Ns b m → (hidT s₁.heap H).Ns b m := fun ⟨o, es, ep, e, d, r⟩ => ⟨o, es, ep, low e fun q => absurd q (notA e d), d, r⟩
  have hKb : K.In (hidT s₁.heap H) := fun b o e => low (KX b o e) fun q => Classical.byContradiction fun z => by
    subst q
    rw [S.own z] at e; cases e
  have e0 : Env0 P w K mg (hidT s₁.heap H) callerA [] s₁ H := ⟨rfl, ⟨hKb, nsK hns, ⟨mb, nsK hb, hbb⟩, let ⟨mc, h1, h2⟩ := hlim; ⟨mc, nsK h1, h2⟩⟩, fun b o e => of_hidT e, Nat.le_of_eq (hidT_size _ _), trivial, fun b hb => absurd (show b ∈ ([] : List Addr) from hb) (by simp), S.ok, .of_eq hg⟩
  refine codeAny_mono ((F _ hKb (nsK hns)).run callerA [] s₁ H ⟨[.ref a], []⟩ [.ref a] [.ref a] _ _ rfl hr e0 (hbind s₁ (.ref a)) (.cons rfl .nil) (hsp H S.only S.sq)) fun r s' h => ?_
  obtain ⟨u, rfl, v, H', os, bare, un, hok', r', q⟩ : ∃ u, r = .ok (.ret u) ∧ CE [] P w H s₁ (fun v _ => v = .bl true) u s' := by
    cases r with
    | error e => exact False.elim h
    | ok fl =>
      cases fl with
      | ret u => exact ⟨u, rfl, h⟩
      | next => exact False.elim h
      | brk => exact False.elim h
      | cont => exact False.elim h
  obtain rfl : v = .bl true := q
  obtain rfl : u = Value.bool true := r'
  refine ⟨rfl, OldK.of_keep fun b o e => ?_, os, bare⟩
  rcases S.only b with z | ⟨ob, xs, z⟩
  · exact un.keep b o e z (by intro z; exact absurd (show b ∈ ([] : List Addr) from z) (by simp)) (by simp)
  · obtain ⟨e2, _⟩ := hok' b _ (un.frzs b ob _ z)
    obtain ⟨e1, _⟩ := S.ok b _ z
    rw [e] at e1; cases e1
    exact e2
end
/-- a law that runs where no repr is under way -/
theorem walk_ofA {l : PySem.W.OpenLaw} {n k : Nat} {q : Program} {loose : List Str} {XP : (Str → Option Value) → Heap → Prop} {YP : World → Heap → Prop} {d : DefRec} {x : Str}
    (hn : l.most = some n) (hn2 : n ≤ sizeLine) (hdf : d.params.defaults = []) (hr : Room k callerA)
    (F : ∀ (w : World) (mg : Str → Option Value) (fa : Addr) (h : Heap), YP w h → h.Ns mainGlobals mg → mg d.name = some (.ref fa) →
      ∃ (K : PySem.W.Frag) (fd : FuncData) (sp : Sp), K.In h ∧ (∀ (s : Shared) (u : Value), BindsTo s fd ⟨[u], []⟩ [(x, u)]) ∧
        (∀ (H : Hp) (a : Addr) (ns : List Int), ns.length ≤ n → Only H → SqL K H a (ns.map V.int) → sp [.ref a] H (fun v _ => v = .bl true) fun _ _ _ => False) ∧
        ∀ base : Heap, K.In base → base.Ns mainGlobals mg → FnA noG l.prog w K mg base k fa fd [x] sp) :
    PySem.W.WalkO q loose XP YP l.row.toRowW d [] (fun f vs => PySem.call f vs) :=
  Att.attach_call hn hdf fun w s₀ s₁ mg mb fa o pm cd doc a vs ns G Y ho hd hcd hmg hobj hints hlen hg => by
    obtain ⟨K, fd, sp, KX, hb, hsp, hF⟩ := F w mg fa _ Y G.T.g hmg
    exact law_callA KX G.T.g G.T.b G.T.builtins G.T.nolimit hg hobj hints (Nat.le_trans hlen hn2) hr hF hb fun H hO hS => hsp H a ns hlen hO hS
end DL

namespace DL
open PySem L2
@[reducible] def noLs : Slot → Bool
  | .free => true
  | .val d => noLd d
  | .own (.lst l) => noLds l
  | .own (.dK l) => noLdK l
  | .own (.dT l) => noLdT l
  | .slf _ _ => false
@[reducible] def KeepS : SS → SS → Prop
  | [], [] => True
  | s :: r, s' :: r' => (s' = .free ∨ (s' = s ∧ noLs s = true)) ∧ KeepS r r'
  | _, _ => False
theorem KeepS.len : ∀ {S S' : SS}, KeepS S S' → S'.length = S.length
  | [], [], _ => rfl
  | _ :: _, _ :: _, h => congrArg (· + 1) (KeepS.len h.2)
  | [], _ :: _, h => h.elim
  | _ :: _, [], h => h.elim
theorem KeepS.get : ∀ {S S' : SS} {i : Nat} {s : Slot}, KeepS S S' → S'[i]? = some s → s = .free ∨ (S[i]? = some s ∧ noLs s = true)
  | [], [], _, _, _, e => by cases e
  | s :: r, s' :: r', 0, t, h, e => by
    obtain rfl : s' = t := by injection e
    rcases h.1 with q | ⟨q, w⟩
    · exact .inl q
    · subst q; exact .inr ⟨rfl, w⟩
  | s :: r, s' :: r', i + 1, t, h, e => KeepS.get (S := r) (S' := r') h.2 e
  | [], _ :: _, _, _, h, _ => h.elim
  | _ :: _, [], _, _, h, _ => h.elim
abbrev voidS (S : SS) : SS := S.map fun _ => .free
theorem keep_free : ∀ {S : SS}, KeepS S (voidS S)
  | [] => trivial
  | _ :: r => ⟨.inl rfl, keep_free (S := r)⟩
section
variable {z : Z} {F F' : Hp} {σ σ' : L2.St} {H H' : Hp} {S S1 S2 S' : SS}
theorem Rep.cut (r : Rep z F σ H S) (k : KeepS S S2) : Rep z (noL F) σ H S2 where
  ext := noL_ext.trans r.ext
  keep := r.keep
  new := fun a o h => r.new a o (noL_some h)
  len := by rw [k.len]; exact r.len
  sl := fun i s h => by
    rcases k.get h with rfl | ⟨h0, w⟩
    · trivial
    have q := r.sl i s h0
    cases s with
    | free => trivial
    | val d =>
      obtain ⟨v, e, p⟩ := q
      exact ⟨v, e, Rp.noL d w p⟩
    | own c =>
      obtain ⟨a, e, f, n, c1⟩ := q
      refine ⟨a, e, ?_, n, ?_⟩
      · cases h1 : noL F a with
        | none => rfl
        | some o => rw [noL_some h1] at f; cases f
      · cases c with
        | lst l => obtain ⟨xs, e1, p⟩ := c1; exact ⟨xs, e1, Rps.noL l w p⟩
        | dK l => obtain ⟨xs, e1, p⟩ := c1; exact ⟨xs, e1, RpK.noL l w p⟩
        | dT l => obtain ⟨xs, e1, p⟩ := c1; exact ⟨xs, e1, RpT.noL l w p⟩
    | slf _ _ => cases w
  pin := r.pin
  pi0 := r.pi0
  pf := fun i a h => by
    rcases r.pf i a h with f | f
    · refine .inl ?_
      cases h1 : noL F a with
      | none => rfl
      | some o => rw [noL_some h1] at f; cases f
    · exact .inr f
  inj := fun i j c c' a hi hj => by
    rcases k.get hi with w | ⟨hi, _⟩
    · cases w
    rcases k.get hj with w | ⟨hj, _⟩
    · cases w
    exact r.inj i j c c' a hi hj
open Classical in
/-- the known part and some lists of the heap -/
noncomputable def addL (F H : Hp) (inn : Addr → Prop) : Hp := fun b => if inn b then H b else F b
theorem addL_in {inn : Addr → Prop} {b : Addr} (h : inn b) : addL F H inn b = H b := if_pos h
theorem addL_out {inn : Addr → Prop} {b : Addr} (h : ¬ inn b) : addL F H inn b = F b := if_neg h
theorem Rep.add {inn : Addr → Prop} (pn : z.pr = prNo) (r : Rep z F σ H S) (h : ∀ b, inn b → F b = none ∧ ∃ xs, H b = some (.lst xs) ∧ Nw z.F0 z.H0 b (.lst xs))
    (ne : ∀ b, inn b → ∀ (j : Nat) (c : Ct), S[j]? = some (.own c) → σ[j]? ≠ some (some (.ref b))) : Rep z (addL F H inn) σ H S := by
  have xF : Ext z.n F (addL F H inn) := fun b o e => ⟨o, by
    rw [addL_out fun w => by rw [(h b w).1] at e; cases e]
    exact e, .refl o⟩
  refine ⟨fun b o e => ?_, r.keep, fun b o e => ?_, r.len, fun i s hs => ?_, r.pin, r.pi0, fun i a w => ?_, r.inj⟩
  · by_cases w : inn b
    · rw [addL_in w] at e; exact ⟨o, e, .refl o⟩
    · rw [addL_out w] at e; exact r.ext b o e
  · by_cases w : inn b
    · rw [addL_in w] at e
      obtain ⟨_, xs, e1, n1⟩ := h b w
      rw [e] at e1; cases e1
      exact n1
    · rw [addL_out w] at e; exact r.new b o e
  · have q := r.sl i s hs
    cases s with
    | free => trivial
    | val d => obtain ⟨v, e, p⟩ := q; exact ⟨v, e, p.mono xF⟩
    | own c =>
      obtain ⟨a, e, f, n, c1⟩ := q
      exact ⟨a, e, by rw [addL_out fun w => ne a w i c hs e]; exact f, n, c1.mono xF fun o h _ => h⟩
    | slf c l => obtain ⟨a, _, _, _, e, _⟩ := q; rw [pn] at e; cases e
  · rw [pn] at w; cases w
/-- lists that a piece may know of, though the known part does not -/
structure InnOk (z : Z) (F : Hp) (σ : L2.St) (H : Hp) (S : SS) (inn : Addr → Prop) : Prop where
  out : ∀ b, inn b → F b = none
  new : ∀ b, inn b → z.H0 b = none
  ne : ∀ b, inn b → ∀ (j : Nat) (c : Ct), S[j]? = some (.own c) → σ[j]? ≠ some (some (.ref b))
  at1 : ∀ b, inn b → ∃ xs, H b = some (.lst xs)
theorem noL_none {a : Addr} (h : F a = none) : noL F a = none := by
  cases h1 : noL F a with
  | none => rfl
  | some o => rw [noL_some h1] at h; cases h
theorem Le.lst {n : Nm} {o : HO} {xs : List V} (l : Le n o (.lst xs)) : o = .lst xs := by
  rcases l with rfl | ⟨_, _, _, _, _, w, _⟩
  · rfl
  · cases w
theorem Rep.piece {inn : Addr → Prop} (pn : z.pr = prNo) (r : Rep z F σ H S) (k : KeepS S S1) (g : InnOk z F σ H S inn) : Rep z (addL (noL F) H inn) σ H S1 :=
  (r.cut k).add pn (fun b w => ⟨noL_none (g.out b w), by
    obtain ⟨xs, e⟩ := g.at1 b w
    exact ⟨xs, e, .inr (.inl (g.new b w))⟩⟩) fun b w j c hj => by
    rcases k.get hj with e | ⟨hj, _⟩
    · cases e
    · exact g.ne b w j c hj
/-- what stands behind a piece -/
structure Behind (z : Z) (F : Hp) (σ : L2.St) (H : Hp) (S1 : SS) (F1 : Hp) (F' : Hp) (σ' : L2.St) (H' : Hp) (S' : SS) : Prop where
  rep : Rep z F' σ' H' S'
  x : Ext z.n F1 F'
  b : Rep (blkZ z F1 σ H S1) F' σ' H' S'
theorem piece_back {F1 : Hp} (pn : z.pr = prNo) (r1 : Rep z F1 σ H S1) (x : Ext z.n F1 F') (b : Rep (blkZ z F1 σ H S1) F' σ' H' S') : Behind z F σ H S1 F1 F' σ' H' S' :=
  ⟨r1.back x b fun i a h => (by rw [pn] at h; cases h), x, b⟩
section
variable {inn : Addr → Prop} (pn : z.pr = prNo) (r : Rep z F σ H S) (own1 : ∀ (j : Nat) (c : Ct), S1[j]? = some (.own c) → S[j]? = some (.own c)) (g : InnOk z F σ H S inn) (r1 : Rep z (addL (noL F) H inn) σ H S1) (B : Behind z F σ H S1 (addL (noL F) H inn) F' σ' H' S')
include pn r own1 g r1 B
/-- where the block's heap has nothing, no list was known -/
theorem blk_none {c : Addr} (h : blkH z σ H S1 c = none) : (∀ xs, F c ≠ some (.lst xs)) ∧ z.H0 c = none := by
  by_cases w : ∃ (i : Nat) (d : Ct), S1[i]? = some (.own d) ∧ σ[i]? = some (some (.ref c))
  · obtain ⟨i, d, h1, h2⟩ := w
    obtain ⟨a, e, f, n, _⟩ := r.sl i _ (own1 i d h1)
    rw [h2] at e; cases e
    refine ⟨fun xs q => (by rw [f] at q; cases q), ?_⟩
    rcases n with n | n
    · exact n
    · rw [pn] at n; cases n
  · have e : blkH z σ H S1 c = H c := blkH_at fun i d h1 h2 => w ⟨i, d, h1, h2⟩
    rw [e] at h
    exact ⟨fun xs q => (by rw [r.ext.lst q] at h; cases h), r.old h⟩
/-- the lists that are known behind a piece were not known ahead of it -/
theorem lst_new {c : Addr} {xs : List V} (h : F' c = some (.lst xs)) : (∀ ys, F c ≠ some (.lst ys)) ∧ z.H0 c = none := by
  rcases B.b.new c _ h with ⟨o0, q⟩ | q | ⟨ys, e, _⟩
  · obtain ⟨o', e', l⟩ := B.x c o0 q
    rw [h] at e'; cases e'
    obtain rfl := l.lst
    by_cases w : inn c
    · exact ⟨fun ys e => (by rw [g.out c w] at e; cases e), g.new c w⟩
    · rw [show (blkZ z (addL (noL F) H inn) σ H S1).F0 c = noL F c from addL_out w] at q
      exact absurd q noL_lst
  · exact blk_none pn r own1 g r1 B q
  · cases e
theorem own_new {j : Nat} {c : Ct} {a : Addr} (h : S'[j]? = some (.own c)) (e : σ'[j]? = some (some (.ref a))) : (∀ ys, F a ≠ some (.lst ys)) ∧ z.H0 a = none ∧ F' a = none := by
  obtain ⟨a', e', f, n, _⟩ := B.b.sl j _ h
  rw [e] at e'; cases e'
  rcases n with n | n
  · have := blk_none pn r own1 g r1 B n
    exact ⟨this.1, this.2, f⟩
  · rw [show (blkZ z (addL (noL F) H inn) σ H S1).pr = prNo from pn] at n; cases n
theorem lst_same {c : Addr} {xs : List V} (h : F c = some (.lst xs)) : H' c = some (.lst xs) := by
  refine B.b.keep c _ ?_ (fun i w => by rw [show (blkZ z (addL (noL F) H inn) σ H S1).pr = prNo from pn] at w; cases w)
  show blkH z σ H S1 c = _
  rw [blkH_at fun i d h1 h2 => ?_]
  · exact r.ext.lst h
  · obtain ⟨a, e, f, _⟩ := r.sl i _ (own1 i d h1)
    rw [h2] at e; cases e
    rw [h] at f; cases f
/-- back in the whole -/
theorem piece_out (k2 : KeepS S' S2) : ∃ F2, Ext z.n F F2 ∧ Ext z.n (noL F') F2 ∧ Rep z F2 σ' H' S2 ∧ (∀ c xs, F' c = some (.lst xs) → F2 c = none) ∧ (∀ c, F' c = none → (∀ ys, F c ≠ some (.lst ys)) → F2 c = none) := by
  have r4 := B.rep.cut k2
  let in2 : Addr → Prop := fun c => ∃ xs, F c = some (.lst xs)
  have no : ∀ c xs, F c = some (.lst xs) → noL F' c = none := fun c xs e => by
    cases h1 : noL F' c with
    | none => rfl
    | some o =>
      exfalso
      obtain ⟨o', e', l⟩ := B.rep.ext c o (noL_some h1)
      rw [lst_same pn r own1 g r1 B e] at e'; cases e'
      obtain rfl := l.lst
      exact noL_lst h1
  refine ⟨addL (noL F') H' in2, fun c o e => ?_, fun c o e => ⟨o, by rw [addL_out fun ⟨xs, q⟩ => by rw [no c xs q] at e; cases e]; exact e, .refl o⟩, r4.add pn (fun c ⟨xs, e⟩ => ⟨no c xs e, xs, lst_same pn r own1 g r1 B e, r.new c _ e⟩) fun c ⟨xs, e⟩ j d hj hj2 => ?_, fun c xs e => ?_, fun c e h => ?_⟩
  · by_cases w : in2 c
    · obtain ⟨xs, e1⟩ := w
      rw [e] at e1; cases e1
      exact ⟨.lst xs, by rw [addL_in ⟨xs, e⟩]; exact lst_same pn r own1 g r1 B e, .refl _⟩
    · have e1 : noL F c = some o := noL_of e fun xs q => w ⟨xs, q ▸ e⟩
      have e2 : addL (noL F) H inn c = some o := by
        rw [addL_out fun q => by rw [g.out c q] at e; cases e]; exact e1
      obtain ⟨o', e3, l⟩ := B.x c o e2
      refine ⟨o', ?_, l⟩
      rw [addL_out w]
      refine noL_of e3 fun xs q => ?_
      subst q
      obtain rfl := l.lst
      exact noL_lst e1
  · rcases k2.get hj with q | ⟨hj, _⟩
    · cases q
    · exact (own_new pn r own1 g r1 B hj hj2).1 xs e
  · rw [addL_out fun ⟨ys, q⟩ => (lst_new pn r own1 g r1 B e).1 ys q]
    rcases noL_cases F' c with ⟨ys, _, q⟩ | q
    · exact q
    · rw [e] at q; exact absurd q noL_lst
  · rw [addL_out fun ⟨ys, q⟩ => h ys q]
    exact noL_none e
end
end
end DL

namespace DL
open PySem L2
/-- the first statements of a block, whatever comes behind -/
def SG (X : Cx) (z : Z) (sts : List Stmt) (f : DS) : Prop := ∀ (rest : List Stmt) (u : TS), PSs X rest u → PSs X (sts ++ rest) (tSeq (tS z f) u)
section
variable {X : Cx} {z : Z} {st : Stmt} {sts : List Stmt} {a b : DS}
theorem sg_nil : SG X z [] dNil := fun rest u h => ⟨fun pins s σ H D I ⟨F, S, E, r, hf, k⟩ => h.run pins s σ H D I (k.nx σ H ⟨F, S, .refl, r, hf⟩)⟩
theorem sg_cons (h1 : JS X z st a) (h2 : SG X z sts b) : SG X z (st :: sts) (dSeq a b) := fun rest u h =>
  ⟨fun pins s σ H D I ⟨F, S, E, r, hf, k⟩ => (pss_cons h1 (h2 rest u h)).run pins s σ H D I ⟨F, S, _, r, hf, ⟨fun σ' H' ⟨F', S', x, r', q⟩ =>
    ⟨F', S', E, r', q, ⟨fun _ _ h => k.nx _ _ (h.up x), fun _ _ h => k.rt _ _ (h.up x), fun _ _ h => k.bk _ _ (h.up x), fun _ _ h => k.ct _ _ (h.up x)⟩⟩, fun _ _ h => k.rt _ _ h, fun _ _ h => k.bk _ _ h, fun _ _ h => k.ct _ _ h⟩⟩⟩
end
/-- a returned thing without lists -/
@[reducible] def onPl (k : D → Prop) : Rs → Prop
  | .val d => noLd d = true ∧ k d
  | _ => False
theorem onPl.get {k : D → Prop} : ∀ {r : Rs}, onPl k r → ∃ d, r = .val d ∧ noLd d = true ∧ k d
  | .val d, h => ⟨d, rfl, h⟩
  | .own _, h => h.elim
  | .two _ _, h => h.elim
@[reducible] def sgE (E : DEnds) (nx : SS → Prop) : DEnds := { nx := nx, rt := fun r S' => onPl (fun d => E.rt (.val d) (voidS S')) r }
/-- behind a piece the name holds a list of lists -/
def heldS (i : Nat) (g : DQL) (E : DEnds) (S' : SS) : Prop := ∃ ll S2, (S'[i]? = some (.val (.lst (ll.map lsD))) ∨ S'[i]? = some (.own (.lst (ll.map lsD)))) ∧ KeepS S' S2 ∧ S2[i]? = some .free ∧ g ll E S2
def dSeg (i : Nat) (f : DS) (g : DQL) : DS := fun E S => ∃ S1, KeepS S S1 ∧ f (sgE E (heldS i g E)) S1
def qSeg (i : Nat) (f : DS) (g : DQL) : DQL := fun ll E S => ∃ S1, KeepS S S1 ∧ f (sgE E (heldS i g E)) (setS S1 i (.val (.lst (ll.map lsD))))
def qEnd (i : Nat) (f : DS) : DQL := fun ll E S => ∃ S1, KeepS S S1 ∧ f (sgE E fun S' => E.nx (voidS S')) (setS S1 i (.val (.lst (ll.map lsD))))
section
variable {n0 : Nm} {F0 H0 : Hp} {F F' : Hp} {σ σ' : L2.St} {H H' : Hp} {S S1 S2 S' : SS} {inn : Addr → Prop} {i : Nat} {ll : List (List Int)}
theorem held_out (r : Rep ⟨n0, F0, H0, prNo⟩ F σ H S) (own1 : ∀ (j : Nat) (c : Ct), S1[j]? = some (.own c) → S[j]? = some (.own c)) (g : InnOk ⟨n0, F0, H0, prNo⟩ F σ H S inn) (r1 : Rep ⟨n0, F0, H0, prNo⟩ (addL (noL F) H inn) σ H S1) (B : Behind ⟨n0, F0, H0, prNo⟩ F σ H S1 (addL (noL F) H inn) F' σ' H' S')
    (k2 : KeepS S' S2) (fr : S2[i]? = some .free) (hi : S'[i]? = some (.val (.lst (ll.map lsD))) ∨ S'[i]? = some (.own (.lst (ll.map lsD)))) :
    ∃ F2, Ext n0 F F2 ∧ Rep ⟨n0, F0, H0, prNo⟩ F2 σ' H' S2 ∧ HeldL ⟨n0, F0, H0, prNo⟩ F2 σ' H' S2 i ll := by
  obtain ⟨F2, x2, _, r2, o1, o2⟩ := piece_out rfl r own1 g r1 B k2
  refine ⟨F2, x2, r2, ?_⟩
  have nb : ∀ c xs, F' c = some (.lst xs) → Nb ⟨n0, F0, H0, prNo⟩ F2 σ' S2 c := fun c xs e => ⟨o1 c xs e, (lst_new rfl r own1 g r1 B e).2, fun j d hj hj2 => by
    rcases k2.get hj with q | ⟨hj, _⟩
    · cases q
    · rw [(own_new rfl r own1 g r1 B hj hj2).2.2] at e; cases e⟩
  rcases hi with hi | hi
  · obtain ⟨v, e, a, xs, rfl, fa, rs⟩ := B.rep.sl i _ hi
    obtain ⟨ps, rfl, rfl, at1⟩ := lists_at rs
    exact ⟨a, ps, rfl, e, B.rep.ext.lst fa, nb a _ fa, fun p hp => ⟨nb p.1 _ (at1 p hp), B.rep.ext.lst (at1 p hp)⟩⟩
  · obtain ⟨a, e, f, n, xs, ha, rs⟩ := B.rep.sl i _ hi
    obtain ⟨ps, rfl, rfl, at1⟩ := lists_at rs
    have on := own_new rfl r own1 g r1 B hi e
    refine ⟨a, ps, rfl, e, ha, ⟨o2 a f on.1, on.2.1, fun j d hj hj2 => ?_⟩, fun p hp => ⟨nb p.1 _ (at1 p hp), B.rep.ext.lst (at1 p hp)⟩⟩
    rcases k2.get hj with q | ⟨hj', _⟩
    · cases q
    · obtain rfl := B.rep.inj j i d _ a hj' hi hj2 e
      rw [fr] at hj; cases hj
/-- a piece's ends -/
theorem piece_ends {E : DEnds} {D : Ends} {nx : SS → Prop} {u : L2.St → Hp → Prop} (r : Rep ⟨n0, F0, H0, prNo⟩ F σ H S) (own1 : ∀ (j : Nat) (c : Ct), S1[j]? = some (.own c) → S[j]? = some (.own c)) (g : InnOk ⟨n0, F0, H0, prNo⟩ F σ H S inn) (r1 : Rep ⟨n0, F0, H0, prNo⟩ (addL (noL F) H inn) σ H S1)
    (le : EndsLe ⟨n0, F0, H0, prNo⟩ F E D) (hn : ∀ F' σ' H' S', Behind ⟨n0, F0, H0, prNo⟩ F σ H S1 (addL (noL F) H inn) F' σ' H' S' → nx S' → u σ' H') :
    EndsLe (blkZ ⟨n0, F0, H0, prNo⟩ (addL (noL F) H inn) σ H S1) (addL (noL F) H inn) (sgE E nx) { D with nx := u } :=
  ⟨fun σ' H' ⟨F', S', x, b, q⟩ => hn F' σ' H' S' (piece_back rfl r1 x b) q, fun v H' ⟨F', σ', S', rr, x, b, ok, q⟩ => by
    obtain ⟨d, rfl, nl, q⟩ := onPl.get q
    obtain ⟨F2, x2, x3, r2, _⟩ := piece_out rfl r own1 g r1 (piece_back rfl r1 x b) (keep_free (S := S'))
    exact le.rt v H' ⟨F2, σ', _, .val d, x2, r2, (Rp.noL d nl ok).mono x3, q⟩, fun _ _ ⟨_, _, _, _, q⟩ => q.elim, fun _ _ ⟨_, _, _, _, q⟩ => q.elim⟩
theorem HeldL.lend (h : HeldL ⟨n0, F0, H0, prNo⟩ F σ H S i ll) (r : Rep ⟨n0, F0, H0, prNo⟩ F σ H S) (k : KeepS S S1) : ∃ inn, InnOk ⟨n0, F0, H0, prNo⟩ F σ H S inn ∧ Rep ⟨n0, F0, H0, prNo⟩ (addL (noL F) H inn) σ H (setS S1 i (.val (.lst (ll.map lsD)))) := by
  obtain ⟨a, ps, rfl, e0, h0, n0', h1⟩ := h.ex
  have g : InnOk ⟨n0, F0, H0, prNo⟩ F σ H S fun b => b = a ∨ ∃ p ∈ ps, b = p.1 := by
    have nb : ∀ b, (b = a ∨ ∃ p ∈ ps, b = p.1) → Nb ⟨n0, F0, H0, prNo⟩ F σ S b := fun b w => by
      rcases w with rfl | ⟨p, hp, rfl⟩
      · exact n0'
      · exact (h1 p hp).1
    refine ⟨fun b w => (nb b w).out, fun b w => (nb b w).new, fun b w => (nb b w).ne, fun b w => ?_⟩
    rcases w with rfl | ⟨p, hp, rfl⟩
    · exact ⟨_, h0⟩
    · exact ⟨_, (h1 p hp).2⟩
  refine ⟨_, g, ?_⟩
  have r1 := r.piece rfl k g
  have il : i < σ.length := by
    rcases Nat.lt_or_ge i σ.length with q | q
    · exact q
    · rw [List.getElem?_eq_none q] at e0; cases e0
  have es : σ.set i (some (.ref a)) = σ := List.ext_getElem? fun j => by
    rw [st_set]
    by_cases q : i = j
    · subst q; rw [if_pos rfl, if_pos il, e0]
    · rw [if_neg q]
  have r2 := r1.setSlot (i := i) rfl (.ref a) (.val (.lst ((ps.map (·.2)).map lsD))) (fun _ => ?_) (fun c w => by cases w)
  · rw [es] at r2; exact r2
  · rw [es]
    refine ⟨_, e0, a, _, rfl, by rw [addL_in (.inl rfl)]; exact h0, ?_⟩
    have : ∀ {qs : List (Addr × List Int)}, (∀ p ∈ qs, p ∈ ps) → Rps n0 (addL (noL F) H fun b => b = a ∨ ∃ p ∈ ps, b = p.1) ((qs.map (·.2)).map lsD) (qs.map fun p => V.ref p.1) := fun {qs} => by
      induction qs with
      | nil => exact fun _ => rfl
      | cons p qs ih => exact fun hq => ⟨_, _, rfl, ⟨p.1, _, rfl, by rw [addL_in (.inr ⟨p, hq p List.mem_cons_self, rfl⟩)]; exact (h1 p (hq p List.mem_cons_self)).2, Rps.of_ints p.2⟩, ih fun q w => hq q (List.mem_cons_of_mem _ w)⟩
    exact this fun p hp => hp
end
section
variable {X : Cx} {n0 : Nm} {F0 H0 : Hp} {i n : Nat} {all rest : List Stmt} {f : DS} {g : DQL}
theorem own_keep {S S1 : SS} (k : KeepS S S1) : ∀ (j : Nat) (c : Ct), S1[j]? = some (.own c) → S[j]? = some (.own c) := fun j c h => by
  rcases k.get h with e | ⟨h, _⟩
  · cases e
  · exact h
theorem own_keepS {S S1 : SS} {d : D} (k : KeepS S S1) : ∀ (j : Nat) (c : Ct), (setS S1 i (.val d))[j]? = some (.own c) → S[j]? = some (.own c) := fun j c h => by
  rcases setS_get h with ⟨_, e⟩ | ⟨_, h⟩
  · cases e
  · exact own_keep k j c h
theorem jb_seg (hs : ∀ F0 H0, SG X ⟨n0, F0, H0, prNo⟩ (all.take n) f) (h2 : JQL X ⟨n0, F0, H0, prNo⟩ i (all.drop n) g) : JB X ⟨n0, F0, H0, prNo⟩ all (dSeg i f g) :=
  ⟨fun pins s0 σ H D I ⟨F, S, E, r, ⟨S1, k, hf⟩, le⟩ => by
    have g0 : InnOk ⟨n0, F0, H0, prNo⟩ F σ H S fun _ => False := ⟨fun _ w => w.elim, fun _ w => w.elim, fun _ w => w.elim, fun _ w => w.elim⟩
    have r1 := r.piece rfl k g0
    have h := hs (addL (noL F) H fun _ => False) (blkH ⟨n0, F0, H0, prNo⟩ σ H S1) (all.drop n) _ h2
    rw [List.take_append_drop] at h
    refine h.run pins s0 σ H D I ⟨_, S1, _, r1.block, hf, piece_ends r (own_keep k) g0 r1 le fun F' σ' H' S' B ⟨ll, S2, hi, k2, fr, q⟩ => ?_⟩
    obtain ⟨F2, x2, r2, hd⟩ := held_out r (own_keep k) g0 r1 B k2 fr hi
    exact ⟨F2, S2, E, ll, r2, hd, q, ⟨fun _ _ h => le.nx _ _ (h.up x2), fun _ _ h => le.rt _ _ (h.up x2), fun _ _ h => le.bk _ _ (h.up x2), fun _ _ h => le.ct _ _ (h.up x2)⟩⟩⟩
theorem jq_seg (hs : ∀ F0 H0, SG X ⟨n0, F0, H0, prNo⟩ (all.take n) f) (h2 : JQL X ⟨n0, F0, H0, prNo⟩ i (all.drop n) g) : JQL X ⟨n0, F0, H0, prNo⟩ i all (qSeg i f g) :=
  ⟨fun pins s0 σ H D I ⟨F, S, E, ll, r, hd, ⟨S1, k, hf⟩, le⟩ => by
    obtain ⟨inn, g0, r1⟩ := hd.lend r k
    have h := hs (addL (noL F) H inn) (blkH ⟨n0, F0, H0, prNo⟩ σ H (setS S1 i (.val (.lst (ll.map lsD))))) (all.drop n) _ h2
    rw [List.take_append_drop] at h
    refine h.run pins s0 σ H D I ⟨_, _, _, r1.block, hf, piece_ends r (own_keepS k) g0 r1 le fun F' σ' H' S' B ⟨ll, S2, hi, k2, fr, q⟩ => ?_⟩
    obtain ⟨F2, x2, r2, hd⟩ := held_out r (own_keepS k) g0 r1 B k2 fr hi
    exact ⟨F2, S2, E, ll, r2, hd, q, ⟨fun _ _ h => le.nx _ _ (h.up x2), fun _ _ h => le.rt _ _ (h.up x2), fun _ _ h => le.bk _ _ (h.up x2), fun _ _ h => le.ct _ _ (h.up x2)⟩⟩⟩
theorem jq_end (hb : ∀ F0 H0, JB X ⟨n0, F0, H0, prNo⟩ all f) : JQL X ⟨n0, F0, H0, prNo⟩ i all (qEnd i f) :=
  ⟨fun pins s0 σ H D I ⟨F, S, E, ll, r, hd, ⟨S1, k, hf⟩, le⟩ => by
    obtain ⟨inn, g0, r1⟩ := hd.lend r k
    refine (hb _ _).run pins s0 σ H D I ⟨_, _, _, r1.block, hf, piece_ends r (own_keepS k) g0 r1 le fun F' σ' H' S' B q => ?_⟩
    obtain ⟨F2, x2, _, r2, _⟩ := piece_out rfl r (own_keepS k) g0 r1 B (keep_free (S := S'))
    exact le.nx _ _ ⟨F2, _, x2, r2, q⟩⟩
end
/-- the other lists: as they were, or changed alike -/
@[reducible] def SameOr (o n : List Int) : List (List Int) → List (List Int) → Prop
  | [], [] => True
  | a :: r, b :: s => (b = a ∨ (a = o ∧ b = n)) ∧ SameOr o n r s
  | _, _ => False
def qSet00 (i : Nat) (t : DE) (g : DQL) : DQL := fun ll E S => t (setS (seen S) i (.val (.lst (ll.map lsD)))) fun d _ => onI (fun m => ∃ c r rest, ll = (c :: r) :: rest ∧ ∀ rest', SameOr (c :: r) (m :: r) rest rest' → g ((m :: r) :: rest') E S) d
def tAnyE (n : Nm) (f : DE) : TE := fun σ H Q => ∃ F0 H0, tE ⟨n, F0, H0, prNo⟩ f σ H Q
theorem pe_anyE {X : Cx} {n : Nm} {e : Expr} {f : DE} (hc : ∀ F0 H0, JE X ⟨n, F0, H0, prNo⟩ e f) : PE X e (tAnyE n f) := ⟨fun pins s σ H Q I ⟨F0, H0, h⟩ => (hc F0 H0).run pins s σ H Q I h⟩
open Classical in
/-- the lists behind the store -/
noncomputable def chg (p0 : Addr) (n : List Int) (ps : List (Addr × List Int)) : List (Addr × List Int) := ps.map fun p => if p.1 = p0 then (p.1, n) else p
theorem chg_same {p0 : Addr} {o n : List Int} : ∀ {ps : List (Addr × List Int)}, (∀ p ∈ ps, p.1 = p0 → p.2 = o) → SameOr o n (ps.map (·.2)) ((chg p0 n ps).map (·.2))
  | [], _ => trivial
  | p :: ps, h => ⟨by
      by_cases q : p.1 = p0
      · exact .inr ⟨h p List.mem_cons_self q, by show (if p.1 = p0 then (p.1, n) else p).2 = n; rw [if_pos q]⟩
      · exact .inl (by show (if p.1 = p0 then (p.1, n) else p).2 = p.2; rw [if_neg q]), chg_same fun p hp => h p (List.mem_cons_of_mem _ hp)⟩
section
variable {X : Cx} {z : Z} {i : Nat} {rest : List Stmt} {g : DQL} {t : DE} {xn c0 c1 e : Expr} {pos p1 p2 : Pos}
theorem jq_set00 (hz : z.n.K = X.K) (he : ∀ F0 H0, JE X ⟨z.n, F0, H0, prNo⟩ e t) (hx : PE X xn (tVar i)) (h0 : PE X c0 (tC (.int 0))) (h1 : PE X c1 (tC (.int 0))) (h2 : JQL X z i rest g)
    (hp : PlainIx c0 := by exact fun _ _ => rfl)
    (ha : ∀ v, assign (.Subscript (.Subscript xn c0 p1) c1 p2) X.env v = (do
      let ov ← holding [v] (eval (.Subscript xn c0 p1) X.env)
      let iv ← holding [v, ov] (eval c1 X.env)
      standAt p2
      holding [v, ov, iv] (setItem ov iv v)
      release [v, ov, iv] []) := by intro _; rfl)
    (hs : swapsWithSole [.Subscript (.Subscript xn c0 p1) c1 p2] e pos.line X.env = pure false := by rfl) (hw : swappedStores [.Subscript (.Subscript xn c0 p1) c1 p2] e X.env = pure none := by rfl)
    (h3 : (assignEach [.Subscript (.Subscript xn c0 p1) c1 p2] X.env).map (·.2) = [assign (.Subscript (.Subscript xn c0 p1) c1 p2) X.env] := by rfl) :
    JQL X z i (.Assign [.Subscript (.Subscript xn c0 p1) c1 p2] e pos :: rest) (qSet00 i t g) :=
  JQL.of (pss_cons (ps_asg (pe_anyE he) (pg_sub (pe_ix ix_seq hx h0 hp) h1 set_list ha) hs hw h3) h2) fun F σ H S E ll r hd hf => by
    refine ⟨H, H, H, _, _, hd.seen r, hf, fun v H1 ⟨F1, S1, d, x1, r1, hv, q⟩ => ?_⟩
    have kp : ∀ a o, H a = some o → H1 a = some o := fun a o e => r1.keep a o e (fun i w => by cases w)
    obtain ⟨m, rfl, c, rr, rs, el, q⟩ := onI.get q
    obtain rfl : v = .int m := hv
    obtain ⟨a, ps, ell, e0, ha1, na, hl⟩ := (hd.later kp).ex
    rw [el] at ell
    obtain ⟨p0, ps, rfl⟩ : ∃ p0 ps', ps = p0 :: ps' := by
      cases ps with
      | nil => cases ell
      | cons p ps => exact ⟨p, ps, rfl⟩
    obtain ⟨b, l0⟩ := p0
    obtain ⟨el1, el2⟩ := List.cons.inj ell
    subst el1; subst el2
    have hb := (hl _ List.mem_cons_self).2
    have nb := (hl _ List.mem_cons_self).1
    have ab : a ≠ b := fun w => by
      subst w
      rw [ha1] at hb
      have := Option.some.inj hb
      injection this with this
      cases this
    refine ⟨.ref a, e0, ?_⟩
    refine .inl ⟨a, _, 0, .ref b, rfl, rfl, SqL.of ha1, by simp [L2.atI, L2.ixN], ?_⟩
    refine ⟨b, (c :: rr).map V.int, 0, 0, rfl, rfl, hb, by simp [L2.ixN], ?_⟩
    have r2 := (r.later kp).other (o := .lst ((m :: rr).map V.int)) nb.out nb.new nb.ne
    refine ⟨F, S, E, _, r2, ⟨a, (b, m :: rr) :: chg b (m :: rr) ps, rfl, e0, ?_, na, fun p hp => ?_⟩, ?_, .refl⟩
    · rw [upd_ne ab, ha1]
      congr 2
      show V.ref b :: _ = V.ref b :: _
      congr 1
      unfold chg
      rw [List.map_map]
      refine List.map_congr_left fun p _ => ?_
      show V.ref p.1 = V.ref (if p.1 = b then (p.1, m :: rr) else p).1
      split <;> rfl
    · rcases List.mem_cons.mp hp with rfl | hp
      · exact ⟨nb, upd_same⟩
      · obtain ⟨p', hp', rfl⟩ := List.mem_map.mp hp
        have h5 := hl p' (List.mem_cons_of_mem _ hp')
        by_cases w : p'.1 = b
        · rw [if_pos w]
          exact ⟨h5.1, by rw [show (p'.1, m :: rr).1 = b from w]; exact upd_same⟩
        · rw [if_neg w]
          exact ⟨h5.1, by rw [upd_ne w]; exact h5.2⟩
    · refine q _ (chg_same fun p hp w => ?_)
      have h5 := (hl p (List.mem_cons_of_mem _ hp)).2
      rw [w, hb] at h5
      have h6 := Option.some.inj h5
      injection h6 with h6
      exact (List.map_inj_right (fun x y e => by injection e) |>.mp h6).symm
end
end DL

namespace W
open PySem L2 DL
def NMs : List Str := ["slow", "early", "quick", "late", "rest", "unit", "step", "even", "scale", "choir", "chords", "table", "size", "fixed", "ways", "line", "prices", "least", "side_of", "steps", "many", "base", "apart"]
def b__law_source_of : DS := (dRetF (fLst (vCons (dBin gMul (oVar 0) (oE (dCB gInt (aCons (oE (dBin gGe (oVar 0) (oE (dBin gPow (oE (dC (.int 10))) (oE (dC (.int 18))))))) aNil)))) (vCons (dBin gMod (oVar 0) (oE (dC (.int 2147483647)))) (vCons (dC (.int 0)) vNil)))))
structure phi__law_source_of (ds : List D) (R : Rs → Prop) : Prop where
  len : ds.length = 1
  run : b__law_source_of { nx := fun _ => R (.val .non), rt := fun r _ => R r } (startS 1 ds)
def b__law_next : DS := (dSeq (dIte (dTB (dBin gGt (oE (dBin gIx (oVar 0) (oE (dC (.int 0))))) (oE (dC (.int 0))))) (dSeq (dAsg (dBin gMod (oE (dBin gIx (oVar 0) (oE (dC (.int 0))))) (oVar 1)) (gN 4))
  (dSeq (dAsg (dBin gDiv (oE (dBin gIx (oVar 0) (oE (dC (.int 0))))) (oVar 1)) (gSetL 0 (dC (.int 0))))
  (dRet (dVar 4))))
  dNil)
  (dSeq (dAsg (dBin gAdd (oE (dBin gIx (oVar 0) (oE (dC (.int 2))))) (oE (dC (.int 1)))) (gSetL 0 (dC (.int 2))))
  (dSeq (dAsg (dBin gIx (oE (dFrz (fLst (vCons (dC (.int 2147483647)) (vCons (dC (.int 2147483629)) (vCons (dC (.int 2147483587)) (vCons (dC (.int 2147483579)) (vCons (dC (.int 2147483563)) (vCons (dC (.int 2147483549)) (vCons (dC (.int 2147483543)) vNil)))))))))) (oE (dBin gMod (oE (dBin gIx (oVar 0) (oE (dC (.int 2))))) (oE (dC (.int 7)))))) (gN 2))
  (dSeq (dAsg (dBin gMod (oE (dBin gPow (oE (dBin gAdd (oE (dBin gAdd (oE (dBin gIx (oVar 0) (oE (dC (.int 1))))) (oE (dBin gMul (oE (dC (.int 7919))) (oE (dBin gIx (oVar 0) (oE (dC (.int 2))))))))) (oE (dC (.int 1))))) (oE (dC (.int 5))))) (oVar 2)) (gN 3))
  (dSeq (dAsg (dBin gMod (oE (dBin gMul (oE (dBin gAdd (oVar 3) (oE (dBin gIx (oVar 0) (oE (dC (.int 2))))))) (oE (dBin gAdd (oE (dBin gDiv (oVar 3) (oE (dC (.int 1009))))) (oE (dC (.int 69621))))))) (oVar 2)) (gN 3))
  (dRet (dBin gMod (oE (dBin gDiv (oVar 3) (oE (dC (.int 7))))) (oVar 1))))))))
structure phi__law_next (c : Ct) (ds : List D) (R : Rs → Ct → Prop) : Prop where
  len : ds.length = 1
  run : b__law_next { nx := fun S => onOwnS (fun c' => R (.val .non) c') (getS S 0), rt := fun r S => onOwnS (fun c' => R r c') (getS S 0) } (.own c :: startS 4 ds)
def b__law_one : DS := (dRet (dBin gIx (oVar 1) (oE (dCall (lift1 phi__law_next) [] (aCons (oVar 0) (aCons (oE (dCB gLen (aCons (oVar 1) aNil))) aNil))))))
structure phi__law_one (c : Ct) (ds : List D) (R : Rs → Ct → Prop) : Prop where
  len : ds.length = 1
  run : b__law_one { nx := fun S => onOwnS (fun c' => R (.val .non) c') (getS S 0), rt := fun r S => onOwnS (fun c' => R r c') (getS S 0) } (.own c :: startS 1 ds)
def b__law_pairs_f1 : DS := (dAsg (dBin gAdd (oVar 3) (oE (dFrz (fLc (wA1 (dVar 1)) (gN 6) dYes (dTup (vCons (dVar 4) (vCons (dVar 6) vNil))) [6])))) (gN 3))
def b__law_pairs : DS := (dSeq (dAsg (dBin gAdd (oE (dC (.int 1))) (oE (dCall (lift1 phi__law_next) [] (aCons (oVar 0) (aCons (oE (dC (.int 4))) aNil))))) (gN 1))
  (dSeq (dAsg (dCall (lift1 phi__law_one) [] (aCons (oVar 0) (aCons (oE (dFrz (fLst (vCons (dC (.int 2)) (vCons (dC (.int 3)) (vCons (dC (.int 6)) (vCons (dC (.int 100)) vNil))))))) aNil))) (gN 2))
  (dSeq (dAsg (dFrz (fLst vNil)) (gN 3))
  (dSeq (dFor (wA1 (dVar 1)) (gN 4) b__law_pairs_f1)
  (dRet (dTup (vCons (dVar 1) (vCons (dFrz (fLc (wS (dVar 3)) (gN 5) (dTB (dBin gGt (oE (dCall (lift1 phi__law_next) [] (aCons (oVar 0) (aCons (oVar 2) aNil)))) (oE (dC (.int 0))))) (dVar 5) [5])) vNil))))))))
structure phi__law_pairs (c : Ct) (ds : List D) (R : Rs → Ct → Prop) : Prop where
  len : ds.length = 0
  run : b__law_pairs { nx := fun S => onOwnS (fun c' => R (.val .non) c') (getS S 0), rt := fun r S => onOwnS (fun c' => R r c') (getS S 0) } (.own c :: startS 6 ds)
def b_is_whole : DS := (dRet (eAnd (dIsi "int" (oVar 0)) (eNot (dIsi "bool" (oVar 0)))))
structure phi_is_whole (ds : List D) (R : Rs → Prop) : Prop where
  len : ds.length = 1
  run : b_is_whole { nx := fun _ => R (.val .non), rt := fun r _ => R r } (startS 1 ds)
def b_is_note_2 : DS := (dRet (eAnd (dCall (lift0 phi_is_whole) [] (aCons (oVar 0) aNil)) (dChain gLe gLt (oE (dC (.int 0))) (oVar 0) (oVar 1))))
structure phi_is_note_2 (ds : List D) (R : Rs → Prop) : Prop where
  len : ds.length = 2
  run : b_is_note_2 { nx := fun _ => R (.val .non), rt := fun r _ => R r } (startS 2 ds)
def b_is_chord : DS := (dRet (eAnd (dIsi "tuple" (oVar 0)) (eAnd (dBin gEq (oE (dCB gLen (aCons (oVar 0) aNil))) (oVar 2)) (dCB gAll (aCons (oE (dFrz (fLc (wS (dVar 0)) (gN 3) dYes (dCall (lift0 phi_is_note_2) [] (aCons (oVar 3) (aCons (oVar 1) aNil))) [3]))) aNil)))))
structure phi_is_chord (ds : List D) (R : Rs → Prop) : Prop where
  len : ds.length = 3
  run : b_is_chord { nx := fun _ => R (.val .non), rt := fun r _ => R r } (startS 4 ds)
def b_check_chords_f1 : DS := (dSeq (dIte (dOr (dNot (dTB (dCall (lift0 phi_is_chord) [] (aCons (oVar 5) (aCons (oVar 1) (aCons (oVar 2) aNil)))))) (dTB (xIn (dVar 5) (oVar 3)))) dNever
  dNil)
  (xPut 3 (dC (.bl true)) (dVar 5)))
def b_check_chords : DS := (dSeq (dIte (dNot (dTB (dIsi "list" (oVar 0)))) dNever
  dNil)
  (dSeq (dAsgF 3 fDNewT)
  (dFor (wEnum (dVar 0)) (gT 2 (gsCons (gN 4) (gsCons (gN 5) gsNil))) b_check_chords_f1)))
structure phi_check_chords (ds : List D) (R : Rs → Prop) : Prop where
  len : ds.length = 3
  run : b_check_chords { nx := fun _ => R (.val .non), rt := fun r _ => R r } (startS 6 ds)
def b_Table__init_ : DS := (dSeq (dIte (dOr (dNot (dTB (dCall (lift0 phi_is_whole) [] (aCons (oVar 1) aNil)))) (dNot (dTB (dChain gLe gLe (oE (dC (.int 1))) (oVar 1) (oE (dC (.int 4))))))) dNever
  dNil)
  (dSeq (dIte (dOr (dNot (dTB (dCall (lift0 phi_is_whole) [] (aCons (oVar 2) aNil)))) (dNot (dTB (dChain gLe gLe (oE (dC (.int 2))) (oVar 2) (oE (dC (.int 4))))))) dNever
  dNil)
  (dSeq (dDrop (dCall (lift0 phi_check_chords) [] (aCons (oVar 3) (aCons (oVar 1) (aCons (oVar 2) aNil)))))
  (dSeq (sFldN 0 2 8 NMs.length (dVar 1))
  (dSeq (sFldN 0 2 9 NMs.length (dVar 2))
  (sFldN 0 2 10 NMs.length (dFrz (fDc (.dT []) (wS (dCB gSortT (aCons (oVar 3) aNil))) (gN 4) dYes (bPut (dVar 4) (dC (.bl true))) [4]))))))))
structure phi_Table__init_ (ds : List D) (R : List (Nat × D) → Prop) : Prop where
  len : ds.length = 3
  run : b_Table__init_ { nx := fun S => onSlf 2 R (getS S 0), rt := fun _ _ => False } (.slf 2 [] :: startS 4 ds)
def b_Table_voices : DS := (dRet (dFld 2 9 (oVar 0)))
structure phi_Table_voices (ds : List D) (R : Rs → Prop) : Prop where
  len : ds.length = 1
  run : b_Table_voices { nx := fun _ => R (.val .non), rt := fun r _ => R r } (startS 1 ds)
def b_check_voices : DS := (dIte (dTB (dBin gNe (oE (dMeth 2 (lift0 phi_Table_voices) [] (oVar 0) aNil)) (oE (dC (.int 2))))) dNever
  dNil)
structure phi_check_voices (ds : List D) (R : Rs → Prop) : Prop where
  len : ds.length = 1
  run : b_check_voices { nx := fun _ => R (.val .non), rt := fun r _ => R r } (startS 1 ds)
def b_Table_allowed : DS := (dRet (dFrz (fListD (oE (dFld 2 10 (oVar 0))))))
structure phi_Table_allowed (ds : List D) (R : Rs → Prop) : Prop where
  len : ds.length = 1
  run : b_Table_allowed { nx := fun _ => R (.val .non), rt := fun r _ => R r } (startS 1 ds)
def b_all_fours : DS := (dSeq (dAsg (dFrz (fDc (.lst []) (wA1 (dVar 0)) (gN 2) dYes (bIn (wA1 (dVar 0)) (gN 3) dYes (bApp (dTup (vCons (dVar 2) (vCons (dVar 3) vNil)))) [3]) [2, 3])) (gN 1))
  (dRet (dFrz (fDc (.lst []) (wS (dVar 1)) (gN 4) dYes (bIn (wS (dVar 1)) (gN 5) dYes (bApp (dBin gAdd (oVar 4) (oVar 5))) [5]) [4, 5]))))
structure phi_all_fours (ds : List D) (R : Rs → Prop) : Prop where
  len : ds.length = 1
  run : b_all_fours { nx := fun _ => R (.val .non), rt := fun r _ => R r } (startS 6 ds)
def b_rests_fit : DS := (dSeq (dAsg (dVar 2) (gT 4 (gsCons (gN 4) (gsCons (gN 5) (gsCons (gN 6) (gsCons (gN 7) gsNil))))))
  (dSeq (dAsg (dCB gLen (aCons (oVar 1) aNil)) (gN 3))
  (dRet (dCB gAll (aCons (oE (dFrz (fLc (wA1 (dVar 3)) (gN 8) dYes (dBin gIn (oE (dTup (vCons (dBin gIx (oVar 1) (oE (dBin gMod (oE (dBin gAdd (oE (dBin gMul (oVar 4) (oVar 8))) (oVar 5))) (oVar 3)))) (vCons (dBin gIx (oVar 1) (oE (dBin gMod (oE (dBin gAdd (oE (dBin gMul (oVar 6) (oVar 8))) (oVar 7))) (oVar 3)))) vNil)))) (oVar 0)) [8]))) aNil)))))
structure phi_rests_fit (ds : List D) (R : Rs → Prop) : Prop where
  len : ds.length = 3
  run : b_rests_fit { nx := fun _ => R (.val .non), rt := fun r _ => R r } (startS 9 ds)
def b_Table_notes : DS := (dRet (dFld 2 8 (oVar 0)))
structure phi_Table_notes (ds : List D) (R : Rs → Prop) : Prop where
  len : ds.length = 1
  run : b_Table_notes { nx := fun _ => R (.val .non), rt := fun r _ => R r } (startS 1 ds)
def b_is_note : DS := (dRet (eAnd (dCall (lift0 phi_is_whole) [] (aCons (oVar 1) aNil)) (dChain gLe gLt (oE (dC (.int 0))) (oVar 1) (oE (dMeth 2 (lift0 phi_Table_notes) [] (oVar 0) aNil)))))
structure phi_is_note (ds : List D) (R : Rs → Prop) : Prop where
  len : ds.length = 2
  run : b_is_note { nx := fun _ => R (.val .non), rt := fun r _ => R r } (startS 2 ds)
def b_rests_shared_f1 : DS := (dSeq (dAsg (eAnd (dIsi "list" (oVar 4)) (eAnd (dChain gLe gLe (oE (dC (.int 1))) (oE (dCB gLen (aCons (oVar 4) aNil))) (oE (dC (.int 8)))) (dBin gEq (oE (dCB gLen (aCons (oVar 4) aNil))) (oE (dCB gLen (aCons (oE (dBin gIx (oVar 1) (oE (dC (.int 0))))) aNil)))))) (gN 5))
  (dIte (dOr (dNot (dTB (dVar 5))) (dNot (dTB (dCB gAll (aCons (oE (dFrz (fLc (wS (dVar 4)) (gN 7) dYes (dCall (lift0 phi_is_note) [] (aCons (oVar 0) (aCons (oVar 7) aNil))) [7]))) aNil))))) dNever
  dNil))
def b_rests_shared : DS := (dSeq (dDrop (dCall (lift0 phi_check_voices) [] (aCons (oVar 0) aNil)))
  (dSeq (dIte (dOr (dNot (dTB (dIsi "list" (oVar 1)))) (dNot (dTB (dChain gLe gLe (oE (dC (.int 1))) (oE (dCB gLen (aCons (oVar 1) aNil))) (oE (dC (.int 12))))))) dNever
  dNil)
  (dSeq (dFor (wEnum (dVar 1)) (gT 2 (gsCons (gN 3) (gsCons (gN 4) gsNil))) b_rests_shared_f1)
  (dSeq (dAsg (dMeth 2 (lift0 phi_Table_allowed) [] (oVar 0) aNil) (gN 2))
  (dRetF (fLc (wS (dCall (lift0 phi_all_fours) [] (aCons (oE (dCB gLen (aCons (oE (dBin gIx (oVar 1) (oE (dC (.int 0))))) aNil))) aNil))) (gN 6) (dTB (dCB gAll (aCons (oE (dFrz (fLc (wS (dVar 1)) (gN 4) dYes (dCall (lift0 phi_rests_fit) [] (aCons (oVar 2) (aCons (oVar 4) (aCons (oVar 6) aNil)))) [4]))) aNil))) (dVar 6) [6]))))))
structure phi_rests_shared (ds : List D) (R : Rs → Prop) : Prop where
  len : ds.length = 2
  run : b_rests_shared { nx := fun _ => R (.val .non), rt := fun r _ => R r } (startS 8 ds)
def b__law_cell_at : DS := (dSeq (dIte (dTB (dBin gLt (oVar 1) (oE (dCB gLen (aCons (oVar 0) aNil))))) (dRet (dBin gIx (oVar 0) (oVar 1)))
  dNil)
  (dRet (dC (.int 0))))
structure phi__law_cell_at (ds : List D) (R : Rs → Prop) : Prop where
  len : ds.length = 2
  run : b__law_cell_at { nx := fun _ => R (.val .non), rt := fun r _ => R r } (startS 2 ds)
def b_check_notes_f1 : DS := (dIte (dNot (dTB (dCall (lift0 phi_is_note) [] (aCons (oVar 0) (aCons (oVar 5) aNil))))) dNever
  dNil)
def b_check_notes : DS := (dSeq (dIte (dOr (dNot (dTB (dIsi "list" (oVar 1)))) (dNot (dTB (dChain gLe gLe (oVar 2) (oE (dCB gLen (aCons (oVar 1) aNil))) (oVar 3))))) dNever
  dNil)
  (dFor (wEnum (dVar 1)) (gT 2 (gsCons (gN 4) (gsCons (gN 5) gsNil))) b_check_notes_f1))
structure phi_check_notes (ds : List D) (R : Rs → Prop) : Prop where
  len : ds.length = 4
  run : b_check_notes { nx := fun _ => R (.val .non), rt := fun r _ => R r } (startS 6 ds)
def b_rests_of : DS := (dSeq (dDrop (dCall (lift0 phi_check_voices) [] (aCons (oVar 0) aNil)))
  (dSeq (dDrop (dCall (lift0 phi_check_notes) [] (aCons (oVar 0) (aCons (oVar 1) (aCons (oE (dC (.int 1))) (aCons (oE (dC (.int 8))) aNil))))))
  (dSeq (dAsg (dMeth 2 (lift0 phi_Table_allowed) [] (oVar 0) aNil) (gN 2))
  (dRet (dFrz (fLc (wS (dCall (lift0 phi_all_fours) [] (aCons (oE (dCB gLen (aCons (oVar 1) aNil))) aNil))) (gN 3) (dTB (dCall (lift0 phi_rests_fit) [] (aCons (oVar 2) (aCons (oVar 1) (aCons (oVar 3) aNil))))) (dVar 3) [3]))))))
structure phi_rests_of (ds : List D) (R : Rs → Prop) : Prop where
  len : ds.length = 2
  run : b_rests_of { nx := fun _ => R (.val .non), rt := fun r _ => R r } (startS 4 ds)
def b__law_mixed : DS := (dSeq (dAsgF 2 (fListOf (oVar 1)))
  (dSeq (dAsgF 3 (fLst vNil))
  (dSeq (dWhile (dTB (dBin gNe (oVar 2) (oE (dFrz (fLst vNil))))) (dOwn 3 (vCons (dPopAt 2 (dCall (lift1 phi__law_next) [] (aCons (oVar 0) (aCons (oE (dCB gLen (aCons (oVar 2) aNil))) aNil)))) vNil) mAppend))
  (dRetOwn 3))))
structure phi__law_mixed (c : Ct) (ds : List D) (R : Rs → Ct → Prop) : Prop where
  len : ds.length = 1
  run : b__law_mixed { nx := fun S => onOwnS (fun c' => R (.val .non) c') (getS S 0), rt := fun r S => onOwnS (fun c' => R r c') (getS S 0) } (.own c :: startS 3 ds)
def b_law_f1 : DS := (dOwn 5 (vCons (dFrz (fLc (wA1 (dVar 4)) (gN 17) dYes (dCall (lift1 phi__law_next) [] (aCons (oVar 2) (aCons (oVar 12) aNil))) [17])) vNil) mAppend)
def b_law_f2 : DS := (dSeq (dAsg (dCall (lift0 phi_rests_shared) [] (aCons (oVar 3) (aCons (oE (dSl (oVar 5) pNo (pSome (dVar 11)))) aNil))) (gN 14))
  (dIte (dTB (dBin gNe (oE (dFrz (fLc (wS (dVar 8)) (gN 16) (dTB (dBin gNotIn (oVar 16) (oVar 14))) (dVar 16) [16]))) (oE (dFrz (fLst vNil))))) (dRet (dC (.bl false)))
  dNil))
def b_law_f3 : DS := (dSeg 5 (dSeq (dAsgF 2 (fCall (lift0 phi__law_source_of) [] (aCons (oVar 1) aNil)))
  (dSeq (dAsg (dCall (lift1 phi__law_pairs) [] (aCons (oVar 2) aNil)) (gT 2 (gsCons (gN 12) (gsCons (gN 13) gsNil))))
  (dSeq (dAsg (dMake 2 phi_Table__init_ (vCons (dVar 12) (vCons (dC (.int 2)) (vCons (dFrz (fRevL (oE (dCB gList (aCons (oVar 13) aNil))))) vNil)))) (gN 3))
  (dSeq (dAsg (dBin gAdd (oE (dC (.int 1))) (oE (dCall (lift1 phi__law_next) [] (aCons (oVar 2) (aCons (oE (dC (.int 4))) aNil))))) (gN 4))
  (dSeq (dAsgF 5 (fLst vNil))
  (dSeq (dFor (wA1 (dBin gAdd (oE (dC (.int 1))) (oE (dCall (lift1 phi__law_next) [] (aCons (oVar 2) (aCons (oE (dCall (lift1 phi__law_one) [] (aCons (oVar 2) (aCons (oE (dFrz (fLst (vCons (dC (.int 5)) (vCons (dC (.int 5)) (vCons (dC (.int 11)) vNil)))))) aNil)))) aNil)))))) (gN 6) b_law_f1)
  (dSeq (dAsgF 5 (fCat (oVar 5) (oE (dSl (oVar 5) pNo (pSome (dCall (lift1 phi__law_next) [] (aCons (oVar 2) (aCons (oE (dC (.int 2))) aNil))))))))
  dNil)))))))
  (qSeg 5 (dSeq (dAsg (dFrz (fLc (wS (dVar 5)) (gN 15) dYes (dCall (lift0 phi_rests_of) [] (aCons (oVar 3) (aCons (oVar 15) aNil))) [15])) (gN 7))
  (dSeq (dAsg (dFrz (fLc (wS (dBin gIx (oVar 7) (oE (dC (.int 0))))) (gN 16) (dTB (dCB gAll (aCons (oE (dFrz (fLc (wS (dVar 7)) (gN 18) dYes (dBin gIn (oVar 16) (oVar 18)) [18]))) aNil))) (dVar 16) [16])) (gN 8))
  (dSeq (dAsg (dCB gRepr (aCons (oVar 5) aNil)) (gN 9))
  (dSeq (dAsgF 10 (fCall (lift0 phi_rests_shared) [] (aCons (oVar 3) (aCons (oVar 5) aNil))))
  (dSeq (dIte (dOr (dTB (dBin gNe (oVar 10) (oVar 8))) (dTB (dBin gNe (oE (dCB gRepr (aCons (oVar 5) aNil))) (oVar 9)))) (dRet (dC (.bl false)))
  dNil)
  (dSeq (dOwn 10 (vCons (dC .non) vNil) mAppend)
  (dSeq (dIte (dTB (dBin gNe (oE (dCallW 0 2 (lift0 phi_rests_shared) [1, 0] aNil (vCons (dCall (lift1 phi__law_mixed) [] (aCons (oVar 2) (aCons (oVar 5) aNil))) (vCons (dVar 3) vNil)))) (oVar 8))) (dRet (dC (.bl false)))
  dNil)
  (dSeq (dFor (wA2 (dC (.int 1)) (dCB gLen (aCons (oVar 5) aNil))) (gN 11) b_law_f2)
  dNil))))))))
  (qSet00 5 (dBin gMod (oE (dBin gAdd (oE (dBin gIx (oE (dBin gIx (oVar 5) (oE (dC (.int 0))))) (oE (dC (.int 0))))) (oE (dC (.int 1))))) (oVar 12)) (qEnd 5 (dSeq (dAsg (dFrz (fLc (wS (dVar 5)) (gN 15) dYes (dCall (lift0 phi_rests_of) [] (aCons (oVar 3) (aCons (oVar 15) aNil))) [15])) (gN 7))
  (dSeq (dAsg (dFrz (fLc (wS (dBin gIx (oVar 7) (oE (dC (.int 0))))) (gN 16) (dTB (dCB gAll (aCons (oE (dFrz (fLc (wS (dVar 7)) (gN 18) dYes (dBin gIn (oVar 16) (oVar 18)) [18]))) aNil))) (dVar 16) [16])) (gN 8))
  (dIte (dTB (dBin gNe (oE (dCall (lift0 phi_rests_shared) [] (aCons (oVar 3) (aCons (oVar 5) aNil)))) (oVar 8))) (dRet (dC (.bl false)))
  dNil)))))))
def b_law : DS := (dSeq (dFor (wS (dBin gAdd (oE (dFrz (fLst (vCons (dCall (lift0 phi__law_cell_at) [] (aCons (oVar 0) (aCons (oE (dC (.int 0))) aNil))) vNil)))) (oE (dSl (oVar 0) (pSome (dC (.int 1))) (pSome (dC (.int 3))))))) (gN 1) b_law_f3)
  (dRet (dC (.bl true))))
structure phi_law (ds : List D) (R : Rs → Prop) : Prop where
  len : ds.length = 1
  run : b_law { nx := fun _ => R (.val .non), rt := fun r _ => R r } (startS 19 ds)
end W

namespace W
open PySem L2 DL
local macro_rules | `(tactic| walk_at "eqok") => `(tactic| (first | with_reducible assumption | with_reducible exact eqOk_int | with_reducible exact eqOk_non | with_reducible exact all_nil | (with_reducible refine all_cons ?_ ?_ <;> walk_at "eqok") | with_reducible exact eqOk_str (by decide +kernel) | ((with_reducible apply eqOk_ite) <;> walk_at "eqok") | (with_reducible apply eqOk_tup; walk_at "eqok") | (with_reducible apply eqOk_lst; walk_at "eqok")))
local macro_rules | `(tactic| walk_at "eqc") => `(tactic| first | exact True.intro | (refine eqc_of ?_ ?_ <;> walk_at "eqok"))
local macro_rules | `(tactic| walk_at "bd") => `(tactic| (first | with_reducible assumption | with_reducible exact Bd.lit | (with_reducible apply Bd.add <;> walk_at "bd") | (with_reducible apply Bd.sub <;> walk_at "bd") | (with_reducible apply Bd.neg; walk_at "bd") | (with_reducible apply Bd.mul <;> walk_at "bd") | (with_reducible apply Bd.div; walk_at "bd") | (with_reducible apply Bd.mod (by first | assumption | omega); walk_at "bd") | (with_reducible apply Bd.pow; walk_at "bd") | (with_reducible apply Bd.abs; walk_at "bd") | (with_reducible apply Bd.ite <;> walk_at "bd")))
local macro_rules | `(tactic| walk_at "sc") => `(tactic| (first | assumption | exact True.intro | with_reducible exact Nat.le_of_ble_eq_true rfl | exact (rfl : (_ : Nat) = _) | exact (rfl : (_ : Option D) = _) | exact fl_lt rfl | ((with_reducible refine And.intro ?_ ?_) <;> walk_at "eqok") | (with_reducible show eqc _ _; walk_at "eqc") | omega | (with_reducible exact mul_l (by omega) (by omega)) | (with_reducible exact mul_r (by omega) (by omega)) | (with_reducible exact div_s (by omega) (by omega)) | (with_reducible exact cpow_ok (by omega) (by omega) (by omega)) | (with_reducible apply divOk_bd (by first | assumption | omega); walk_at "bd"; decide) | (with_reducible apply mulOk_bd; walk_at "bd"; walk_at "bd"; decide)))
local macro_rules | `(tactic| walk_at "w") => `(tactic| ((conv => whnf); try dsimp only [setS, putR, ownR, startS, freeS, Int.reduceToNat, Int.reducePow]))
local macro_rules | `(tactic| walk_at "kill") => `(tactic| (intro h; first | contradiction | exact absurd h (by decide) | exact absurd (deq_str.symm.trans h) (by decide) | (exfalso; simp only [decide_eq_true_eq, decide_eq_false_iff_not, deq_int, deq_self, deq_non_int, deq_int_non, Bool.not_eq_true', Bool.not_eq_false', Bool.not_true, Bool.not_false, DL.isNon, reduceCtorEq, List.length_cons, List.length_nil] at h <;> omega)))
local macro_rules | `(tactic| walk_at "go") => `(tactic| (walk_at "w"; repeat ((with_reducible refine And.intro ?_ ?_); first | ((· walk_at "sc"); walk_at "w") | ((· walk_at "kill"); intro h; clear h; walk_at "w") | (rotate_left; (· walk_at "kill"); intro h; clear h; walk_at "w"))))
local macro_rules | `(tactic| walk_at "alli") => `(tactic| ((repeat (refine And.intro ⟨by omega, by omega⟩ ?_)); exact True.intro))
local macro_rules | `(tactic| walk_at "len") => `(tactic| exact Nat.le_of_ble_eq_true rfl)
/-- a drawing source: so many draws at most so far -/
def Src (n : Nat) (s : Ct) : Prop := ∃ a b c : Int, s = .lst [.int a, .int b, .int c] ∧ 0 ≤ b ∧ b < 2147483647 ∧ 0 ≤ c ∧ c ≤ n
theorem Src.mono {n m : Nat} {s : Ct} (h : Src n s) (e : n ≤ m) : Src m s := by
  obtain ⟨a, b, c, rfl, h1, h2, h3, h4⟩ := h
  exact ⟨a, b, c, rfl, h1, h2, h3, by omega⟩
abbrev canonD (a b c d : Int) : D := .ins 0 [(0, .int a), (1, .int b), (2, .int c), (3, .int d)]
structure Cn (a b c d : Int) : Prop where
  a0 : 0 < a
  b0 : 0 ≤ b
  ac : a < c
  d0 : 0 ≤ d
  ba : Bd 1000 a
  bb : Bd 1000 b
  bc : Bd 1000 c
  bd : Bd 1000 d
theorem Cn.mk' {a b c d : Int} (a0 : 0 < a) (b0 : 0 ≤ b) (ac : a < c) (d0 : 0 ≤ d) (h1 : b < 2 ^ 1000) (h2 : c < 2 ^ 1000) (h3 : d < 2 ^ 1000) : Cn a b c d :=
  ⟨a0, b0, ac, d0, ⟨by omega⟩, ⟨by omega⟩, ⟨by omega⟩, ⟨by omega⟩⟩
abbrev momentD (a b y : Int) : D := if y < b ∨ (y - b) % a ≠ 0 then .non else .int ((y - b) / a)
theorem moment_at {a b t : Int} (ha : 0 < a) (ht : 0 ≤ t) : momentD a b (a * t + b) = .int t := by
  have e0 : 0 ≤ a * t := Int.mul_nonneg (by omega) ht
  have e1 : a * t + b - b = a * t := by omega
  rw [momentD, e1, Int.mul_emod_right, Int.mul_ediv_cancel_left _ (by omega), if_neg (by omega)]
theorem moment_b {a b : Int} : momentD a b b = .int 0 := by
  rw [momentD, Int.sub_self, Int.zero_emod, Int.zero_ediv, if_neg (by omega)]
abbrev ledD (a b c d y : Int) : D := if y < b ∨ (y - b) % a ≠ 0 then .non else .int (c * ((y - b) / a) + d)
theorem led_at {a b c d t : Int} (ha : 0 < a) (ht : 0 ≤ t) : ledD a b c d (a * t + b) = .int (c * t + d) := by
  have e0 : 0 ≤ a * t := Int.mul_nonneg (by omega) ht
  have e1 : a * t + b - b = a * t := by omega
  rw [ledD, e1, Int.mul_emod_right, Int.mul_ediv_cancel_left _ (by omega), if_neg (by omega)]
theorem led_b {a b c d : Int} : ledD a b c d b = .int d := by
  rw [ledD, Int.sub_self, Int.zero_emod, Int.zero_ediv, if_neg (by omega)]
  congr 1; omega
abbrev aheadD (a b c d y : Int) : D := ledD c d a b y
abbrev loopD (a b c d : Int) : D := if b < d ∨ (b - d) % (c - a) ≠ 0 then .non else .int (a * ((b - d) / (c - a)) + b)
theorem loop_int {a b c d m : Int} (h3 : a < c) (h : b - d = (c - a) * m) (hm : 0 ≤ m) : loopD a b c d = .int (a * m + b) := by
  have e0 : 0 ≤ (c - a) * m := Int.mul_nonneg (by omega) hm
  rw [loopD, h, Int.mul_emod_right, Int.mul_ediv_cancel_left _ (by omega), if_neg (by omega)]
theorem gcd_bd {a c : Int} {k : Nat} (ha : 0 < a) (ba : Bd k a) : 0 < (Int.gcd a c : Int) ∧ Bd k (Int.gcd a c : Int) := by
  have g0 : 0 < (Int.gcd a c : Int) := by
    have := Int.gcd_pos_of_ne_zero_left c (show a ≠ 0 by omega)
    omega
  have h2 := Int.le_of_dvd ha (Int.gcd_dvd_left a c)
  have := ba.lt
  exact ⟨g0, ⟨by omega⟩⟩
theorem div_rest {x g : Int} (hg : 0 < g) : (x - x % g) / g = x / g := by
  have := Int.mul_ediv_add_emod x g
  rw [show x - x % g = g * (x / g) by omega, Int.mul_ediv_cancel_left _ (by omega)]
theorem mul_lt_of {a b A B : Int} (h0 : 0 ≤ a) (h1 : a ≤ A) (h2 : 0 ≤ b) (h3 : b ≤ B) : a * b ≤ A * B :=
  Int.le_trans (Int.mul_le_mul_of_nonneg_right h1 h2) (Int.mul_le_mul_of_nonneg_left h3 (by omega))
/-- y is led to z -/
def Led (a b c d y z : Int) : Prop := ∃ t : Int, 0 ≤ t ∧ y = a * t + b ∧ z = c * t + d
theorem led_iff {a b c d y z : Int} (ha : 0 < a) : ledD a b c d y = .int z ↔ Led a b c d y z := by
  constructor
  · intro h
    by_cases q : y < b ∨ (y - b) % a ≠ 0
    · rw [ledD, if_pos q] at h; cases h
    · rw [ledD, if_neg q] at h
      have e0 := D.int.inj h
      have e1 := Int.mul_ediv_add_emod (y - b) a
      exact ⟨(y - b) / a, Int.ediv_nonneg (by omega) (by omega), by omega, e0.symm⟩
  · rintro ⟨t, t0, rfl, rfl⟩
    exact led_at ha t0
theorem led_cases {a b c d y : Int} (ha : 0 < a) : (ledD a b c d y = .non ∧ ∀ z, ¬ Led a b c d y z) ∨ ∃ z, ledD a b c d y = .int z ∧ Led a b c d y z := by
  by_cases q : y < b ∨ (y - b) % a ≠ 0
  · have e : ledD a b c d y = .non := by rw [ledD, if_pos q]
    exact .inl ⟨e, fun z h => by rw [(led_iff ha).mpr h] at e; cases e⟩
  · have e : ledD a b c d y = .int (c * ((y - b) / a) + d) := by rw [ledD, if_neg q]
    exact .inr ⟨_, e, (led_iff ha).mp e⟩
theorem Led.symm {a b c d y z : Int} (h : Led a b c d y z) : Led c d a b z y := by
  obtain ⟨t, t0, h1, h2⟩ := h
  exact ⟨t, t0, h2, h1⟩
theorem Led.fn {a b c d y z z' : Int} (ha : 0 < a) (h : Led a b c d y z) (k : Led a b c d y z') : z = z' := by
  have h1 := (led_iff ha).mpr h
  rw [(led_iff ha).mpr k] at h1
  exact (D.int.inj h1).symm
theorem Led.inj {a b c d y y' z : Int} (hc : 0 < c) (h : Led a b c d y z) (k : Led a b c d y' z) : y = y' := Led.fn hc h.symm k.symm
/-- how far from the turning point, so many times the paces' difference -/
def off (a b c d y : Int) : Int := (c - a) * y - (b * c - a * d)
theorem Led.off {a b c d y z : Int} (h : Led a b c d y z) : a * W.off a b c d z = c * W.off a b c d y := by
  obtain ⟨t, t0, rfl, rfl⟩ := h
  unfold W.off
  grind
theorem Led.self {a b c d y : Int} (h3 : a < c) (h : Led a b c d y y) : W.off a b c d y = 0 := by
  have := h.off
  have e : (c - a) * W.off a b c d y = 0 := by grind
  rcases Int.mul_eq_zero.mp e with q | q
  · omega
  · exact q
theorem Led.loop {a b c d y z : Int} (h1 : 0 < a) (h3 : a < c) (h : Led a b c d y z) (e : W.off a b c d y = 0) : z = y := by
  have h2 := h.off
  rw [e, Int.mul_zero] at h2
  rcases Int.mul_eq_zero.mp h2 with q | q
  · omega
  · unfold W.off at e q
    have : (c - a) * z = (c - a) * y := by omega
    exact Int.eq_of_mul_eq_mul_left (by omega) this
theorem Led.grow {a b c d y z : Int} (h1 : 0 < a) (h3 : a < c) (h : Led a b c d y z) (n : W.off a b c d y ≠ 0) : (W.off a b c d y).natAbs < (W.off a b c d z).natAbs := by
  have h2 := congrArg Int.natAbs h.off
  rw [Int.natAbs_mul, Int.natAbs_mul] at h2
  have p : 0 < (W.off a b c d y).natAbs := Int.natAbs_pos.mpr n
  have l : a.natAbs * (W.off a b c d y).natAbs < c.natAbs * (W.off a b c d y).natAbs := Nat.mul_lt_mul_of_pos_right (by omega) p
  rw [← h2] at l
  exact Nat.lt_of_mul_lt_mul_left l
theorem Led.nz {a b c d y z : Int} (h1 : 0 < a) (h3 : a < c) (h : Led a b c d y z) : W.off a b c d y ≠ 0 ↔ W.off a b c d z ≠ 0 := by
  have h2 := h.off
  constructor
  · intro n e
    rw [e, Int.mul_zero] at h2
    rcases Int.mul_eq_zero.mp h2.symm with q | q
    · omega
    · exact n q
  · intro n e
    rw [e, Int.mul_zero] at h2
    rcases Int.mul_eq_zero.mp h2 with q | q
    · omega
    · exact n q
/-- each is led to the next -/
def Ch (a b c d : Int) : List Int → Prop
  | [] => True
  | [_] => True
  | x :: y :: r => Led a b c d x y ∧ Ch a b c d (y :: r)
/-- so many steps on -/
def Far (a b c d : Int) : Nat → Int → Int → Prop
  | 0, y, z => y = z
  | k + 1, y, z => ∃ x, Led a b c d y x ∧ Far a b c d k x z
theorem Far.off {a b c d : Int} : ∀ {k : Nat} {y z : Int}, Far a b c d k y z → a ^ k * W.off a b c d z = c ^ k * W.off a b c d y
  | 0, y, z, h => by rw [show y = z from h]; simp
  | k + 1, y, z, ⟨x, h1, h2⟩ => by
    have e1 := h1.off
    have e2 := Far.off h2
    rw [Int.pow_succ, Int.pow_succ]
    grind
theorem Ch.far {a b c d : Int} : ∀ {l : List Int} {x : Int}, Ch a b c d (x :: l) → Far a b c d l.length x ((x :: l).getLast (by simp))
  | [], x, _ => rfl
  | y :: r, x, h => ⟨y, h.1, by
    rw [List.getLast_cons (by simp)]
    exact Ch.far h.2⟩
/-- rows are short -/
theorem Far.short {a b c d : Int} (h1 : 0 < a) (h3 : a < c) {k : Nat} {y z : Int} (h : Far a b c d k y z) (n : W.off a b c d y ≠ 0) : 2 ^ k ≤ (W.off a b c d y).natAbs ∨ 2 ^ k ≤ (W.off a b c d z).natAbs := by
  have e := h.off
  have ⟨g0, _⟩ := gcd_bd (c := c) (k := a.natAbs) h1 ⟨Nat.lt_two_pow_self⟩
  have gc : Int.gcd (a / (Int.gcd a c : Int)) (c / (Int.gcd a c : Int)) = 1 := Int.gcd_ediv_gcd_ediv_gcd (by omega)
  have da := Int.mul_ediv_cancel' (Int.gcd_dvd_left a c)
  have dc := Int.mul_ediv_cancel' (Int.gcd_dvd_right a c)
  generalize (Int.gcd a c : Int) = g at *
  generalize a / g = u at *
  generalize c / g = v at *
  generalize W.off a b c d y = oy at *
  generalize W.off a b c d z = oz at *
  have u0 : 0 < u := Int.pos_of_mul_pos_right (by rw [da]; exact h1) (by omega)
  have uv : u < v := Int.lt_of_mul_lt_mul_left (a := g) (by rw [da, dc]; exact h3) (by omega)
  have e2 : u ^ k * oz = v ^ k * oy := by
    rw [← da, ← dc, Int.mul_pow, Int.mul_pow] at e
    have p : g ^ k ≠ 0 := Int.pow_ne_zero (by omega)
    refine Int.eq_of_mul_eq_mul_left p ?_
    rw [← Int.mul_assoc, ← Int.mul_assoc]; exact e
  by_cases q : u = 1
  · right
    subst q
    rw [Int.one_pow, Int.one_mul] at e2
    rw [e2, Int.natAbs_mul, Int.natAbs_pow]
    have p : 0 < oy.natAbs := Int.natAbs_pos.mpr n
    have : 2 ^ k ≤ v.natAbs ^ k := Nat.pow_le_pow_left (by omega) k
    calc 2 ^ k ≤ v.natAbs ^ k := this
      _ ≤ v.natAbs ^ k * oy.natAbs := Nat.le_mul_of_pos_right _ p
  · left
    have cop : Nat.Coprime (u.natAbs ^ k) (v.natAbs ^ k) := Nat.Coprime.pow k k gc
    have dv : u.natAbs ^ k ∣ v.natAbs ^ k * oy.natAbs := by
      have := congrArg Int.natAbs e2
      rw [Int.natAbs_mul, Int.natAbs_mul, Int.natAbs_pow, Int.natAbs_pow] at this
      exact ⟨_, this.symm⟩
    have dv2 : u.natAbs ^ k ∣ oy.natAbs := Nat.Coprime.dvd_of_dvd_mul_left cop dv
    have p : 0 < oy.natAbs := Int.natAbs_pos.mpr n
    have := Nat.le_of_dvd p dv2
    have : 2 ^ k ≤ u.natAbs ^ k := Nat.pow_le_pow_left (by omega) k
    omega
/-- the row on from x, in a tune of n -/
def Tl (a b c d n : Int) : Int → List Int → Prop
  | x, [] => ∀ z, Led a b c d x z → n ≤ z
  | x, y :: r => Led a b c d x y ∧ y < n ∧ Tl a b c d n y r
theorem Tl.fn {a b c d n : Int} (ha : 0 < a) : ∀ {l l' : List Int} {x : Int}, Tl a b c d n x l → Tl a b c d n x l' → l = l'
  | [], [], _, _, _ => rfl
  | [], y :: r, x, h, k => by have := h y k.1; have := k.2.1; omega
  | y :: r, [], x, h, k => by have := k y h.1; have := h.2.1; omega
  | y :: r, y' :: r', x, h, k => by
    have e := Led.fn ha h.1 k.1
    subst e
    rw [Tl.fn ha h.2.2 k.2.2]
theorem Tl.ch {a b c d n : Int} : ∀ {l : List Int} {x : Int}, Tl a b c d n x l → Ch a b c d (x :: l)
  | [], _, _ => trivial
  | _ :: _, _, h => ⟨h.1, Tl.ch h.2.2⟩
theorem Tl.below {a b c d n : Int} : ∀ {l : List Int} {x : Int}, x < n → Tl a b c d n x l → ∀ y ∈ x :: l, y < n
  | [], _, h, _, y, hy => by simp at hy; omega
  | z :: r, x, h, k, y, hy => by
    rcases List.mem_cons.mp hy with rfl | hy
    · exact h
    · exact Tl.below k.2.1 k.2.2 y hy
theorem Led.nn {a b c d y z : Int} (hb : 0 ≤ b) (ha : 0 ≤ a) (h : Led a b c d y z) : 0 ≤ y := by
  obtain ⟨t, t0, rfl, _⟩ := h
  have := Int.mul_nonneg ha t0
  omega
theorem Tl.nn {a b c d n : Int} (hb : 0 ≤ d) (ha : 0 ≤ c) : ∀ {l : List Int} {x : Int}, 0 ≤ x → Tl a b c d n x l → ∀ y ∈ x :: l, 0 ≤ y
  | [], _, h, _, y, hy => by simp at hy; omega
  | z :: r, x, h, k, y, hy => by
    rcases List.mem_cons.mp hy with rfl | hy
    · exact h
    · exact Tl.nn hb ha (Led.nn hb ha k.1.symm) k.2.2 y hy
/-- x's row in a tune of n is l -/
def Rw (a b c d n : Int) (l : List Int) (x : Int) : Prop := ∃ l1 l2, l = l1.reverse ++ x :: l2 ∧ Tl c d a b n x l1 ∧ Tl a b c d n x l2
theorem Rw.fn {a b c d n : Int} (ha : 0 < a) (hc : 0 < c) {l l' : List Int} {x : Int} (h : Rw a b c d n l x) (k : Rw a b c d n l' x) : l = l' := by
  obtain ⟨l1, l2, rfl, h1, h2⟩ := h
  obtain ⟨m1, m2, rfl, k1, k2⟩ := k
  rw [Tl.fn hc h1 k1, Tl.fn ha h2 k2]
theorem Rw.up {a b c d n : Int} : ∀ {l1 l2 : List Int} {x : Int}, x < n → Tl c d a b n x l1 → Tl a b c d n x l2 → ∀ y ∈ l2, Rw a b c d n (l1.reverse ++ x :: l2) y
  | l1, [], _, _, _, _, y, hy => by cases hy
  | l1, z :: r, x, hx, h1, h2, y, hy => by
    have h3 : Tl c d a b n z (x :: l1) := ⟨h2.1.symm, hx, h1⟩
    rcases List.mem_cons.mp hy with rfl | hy
    · exact ⟨x :: l1, r, by simp, h3, h2.2.2⟩
    · have := Rw.up h2.2.1 h3 h2.2.2 y hy
      simpa using this
theorem Rw.down {a b c d n : Int} : ∀ {l1 l2 : List Int} {x : Int}, x < n → Tl c d a b n x l1 → Tl a b c d n x l2 → ∀ y ∈ l1, Rw a b c d n (l1.reverse ++ x :: l2) y
  | [], l2, _, _, _, _, y, hy => by cases hy
  | z :: r, l2, x, hx, h1, h2, y, hy => by
    have h3 : Tl a b c d n z (x :: l2) := ⟨h1.1.symm, hx, h2⟩
    rcases List.mem_cons.mp hy with rfl | hy
    · exact ⟨r, x :: l2, by simp, h1.2.2, h3⟩
    · have := Rw.down h1.2.1 h1.2.2 h3 y hy
      simpa using this
theorem Rw.all {a b c d n : Int} {l : List Int} {x : Int} (hx : x < n) (h : Rw a b c d n l x) : ∀ y ∈ l, Rw a b c d n l y := by
  obtain ⟨l1, l2, rfl, h1, h2⟩ := h
  intro y hy
  rcases List.mem_append.mp hy with q | q
  · exact Rw.down hx h1 h2 y (List.mem_reverse.mp q)
  · rcases List.mem_cons.mp q with rfl | q
    · exact ⟨l1, l2, rfl, h1, h2⟩
    · exact Rw.up hx h1 h2 y q
theorem Rw.mem {a b c d n : Int} {l : List Int} {x : Int} (h : Rw a b c d n l x) : x ∈ l := by
  obtain ⟨l1, l2, rfl, h1, h2⟩ := h
  simp
theorem norm_ {a b c d n : Int} : ∀ {l1 l2 : List Int} {x : Int}, x < n → Tl c d a b n x l1 → Tl a b c d n x l2 → ∃ h t, l1.reverse ++ x :: l2 = h :: t ∧ h < n ∧ (∀ z, Led a b c d z h → n ≤ z) ∧ Tl a b c d n h t
  | [], l2, x, hx, h1, h2 => ⟨x, l2, rfl, hx, fun z k => h1 z k.symm, h2⟩
  | z :: r, l2, x, hx, h1, h2 => by
    have := norm_ (l2 := x :: l2) h1.2.1 h1.2.2 ⟨h1.1.symm, hx, h2⟩
    simpa using this
/-- from its first beat on -/
theorem Rw.norm {a b c d n : Int} {l : List Int} {x : Int} (hx : x < n) (h : Rw a b c d n l x) : ∃ h t, l = h :: t ∧ h < n ∧ (∀ z, Led a b c d z h → n ≤ z) ∧ Tl a b c d n h t := by
  obtain ⟨l1, l2, rfl, h1, h2⟩ := h
  exact norm_ hx h1 h2
theorem Rw.rng {a b c d n : Int} (h1 : 0 < a) (h2 : 0 ≤ b) (h3 : a < c) (h4 : 0 ≤ d) {l : List Int} {x : Int} (x0 : 0 ≤ x) (hx : x < n) (h : Rw a b c d n l x) : ∀ y ∈ l, 0 ≤ y ∧ y < n := by
  obtain ⟨l1, l2, rfl, k1, k2⟩ := h
  intro y hy
  rcases List.mem_append.mp hy with q | q
  · have q := List.mem_cons_of_mem x (List.mem_reverse.mp q)
    exact ⟨Tl.nn h2 (by omega) x0 k1 y q, Tl.below hx k1 y q⟩
  · exact ⟨Tl.nn h4 (by omega) x0 k2 y q, Tl.below hx k2 y q⟩
theorem Ch.nodup {a b c d : Int} (h1 : 0 < a) (h3 : a < c) : ∀ {l : List Int} {x : Int}, W.off a b c d x ≠ 0 → Ch a b c d (x :: l) → (∀ y ∈ l, (W.off a b c d x).natAbs < (W.off a b c d y).natAbs) ∧ (x :: l).Nodup
  | [], x, n, _ => ⟨by simp, by simp⟩
  | y :: r, x, n, h => by
    have g := h.1.grow h1 h3 n
    have ⟨g1, g2⟩ := Ch.nodup h1 h3 ((h.1.nz h1 h3).mp n) h.2
    have g3 : ∀ z ∈ y :: r, (W.off a b c d x).natAbs < (W.off a b c d z).natAbs := fun z hz => by
      rcases List.mem_cons.mp hz with rfl | hz
      · exact g
      · have := g1 z hz; omega
    refine ⟨g3, List.nodup_cons.mpr ⟨fun q => ?_, g2⟩⟩
    have := g3 x q
    omega
theorem Tl.nz {a b c d n : Int} (h1 : 0 < a) (h3 : a < c) : ∀ {l : List Int} {x : Int}, Tl a b c d n x l → ∀ y ∈ l, W.off a b c d x ≠ 0 ↔ W.off a b c d y ≠ 0
  | [], _, _, y, hy => by cases hy
  | z :: r, x, h, y, hy => by
    have e := h.1.nz h1 h3
    rcases List.mem_cons.mp hy with rfl | hy
    · exact e
    · exact e.trans (Tl.nz h1 h3 h.2.2 y hy)
theorem Rw.nodup {a b c d n : Int} (h1 : 0 < a) (h3 : a < c) {l : List Int} {x : Int} (hx : x < n) (h : Rw a b c d n l x) (nz : W.off a b c d x ≠ 0) : l.Nodup := by
  obtain ⟨z, t, rfl, _, k1, k2⟩ := h.norm hx
  refine (Ch.nodup h1 h3 (l := t) ?_ k2.ch).2
  rcases List.mem_cons.mp h.mem with rfl | hm
  · exact nz
  · exact (Tl.nz h1 h3 k2 x hm).mpr nz
theorem nodup_first {l : List Int} (h : l.Nodup) {j : Nat} {y : Int} (e : l[j]? = some y) : ∀ m, m < j → l[m]? ≠ some y := fun m hm q => by
  obtain ⟨h1, e1⟩ := List.getElem?_eq_some_iff.mp e
  obtain ⟨h2, e2⟩ := List.getElem?_eq_some_iff.mp q
  exact List.pairwise_iff_getElem.mp h m j h2 h1 hm (by rw [e1, e2])
/-- so far the walk -/
def Wk (a b c d n : Int) : Int → List Int → Int → Prop
  | x, [], y => x = y
  | x, z :: r, y => Led a b c d x z ∧ z < n ∧ Wk a b c d n z r y
theorem Wk.snoc {a b c d n : Int} : ∀ {l : List Int} {x y z : Int}, Wk a b c d n x l y → Led a b c d y z → z < n → Wk a b c d n x (l ++ [z]) z
  | [], x, y, z, h, k, q => by rw [show x = y from h]; exact ⟨k, q, rfl⟩
  | _ :: r, x, y, z, h, k, q => ⟨h.1, h.2.1, Wk.snoc h.2.2 k q⟩
theorem Wk.done {a b c d n : Int} : ∀ {l : List Int} {x y : Int}, Wk a b c d n x l y → (∀ z, Led a b c d y z → n ≤ z) → Tl a b c d n x l
  | [], x, y, h, k => by rw [show x = y from h]; exact k
  | _ :: r, x, y, h, k => ⟨h.1, h.2.1, Wk.done h.2.2 k⟩
theorem Wk.far {a b c d n : Int} : ∀ {l : List Int} {x y : Int}, Wk a b c d n x l y → Far a b c d l.length x y
  | [], _, _, h => h
  | z :: _, _, _, h => ⟨z, h.1, Wk.far h.2.2⟩
theorem Far.snoc {a b c d : Int} : ∀ {k : Nat} {x y z : Int}, Far a b c d k x y → Led a b c d y z → Far a b c d (k + 1) x z
  | 0, x, y, z, h, q => ⟨z, by rw [show x = y from h]; exact q, rfl⟩
  | k + 1, x, y, z, ⟨w, h1, h2⟩, q => ⟨w, h1, Far.snoc h2 q⟩
theorem Far.symm {a b c d : Int} : ∀ {k : Nat} {x y : Int}, Far a b c d k x y → Far c d a b k y x
  | 0, x, y, h => (show x = y from h).symm
  | k + 1, x, y, ⟨w, h1, h2⟩ => Far.snoc (Far.symm h2) h1.symm
theorem Far.nz {a b c d : Int} (h1 : 0 < a) (h3 : a < c) : ∀ {k : Nat} {x y : Int}, Far a b c d k x y → (W.off a b c d x ≠ 0 ↔ W.off a b c d y ≠ 0)
  | 0, x, y, h => by rw [show x = y from h]
  | k + 1, x, y, ⟨w, h4, h2⟩ => (h4.nz h1 h3).trans (Far.nz h1 h3 h2)
theorem off_bd {a b c d n y : Int} (h : Cn a b c d) (y0 : 0 ≤ y) (yn : y < n) (bn : Bd 1000 n) : Bd 2005 (W.off a b c d y) := by
  have ⟨h1, h2, h3, h4, ba, bb, bc, bd⟩ := h
  have by_ : Bd 1000 y := Bd.below y0 (by omega) bn
  unfold W.off
  exact Bd.mono (by walk_at "bd") (by decide)
theorem Far.len {a b c d n x y : Int} {k : Nat} (h : Cn a b c d) (hf : Far a b c d k x y) (bn : Bd 1000 n) (x0 : 0 ≤ x) (xn : x < n) (y0 : 0 ≤ y) (yn : y < n) (nz : W.off a b c d x ≠ 0) : k < 2005 := by
  have e1 := (off_bd h x0 xn bn).lt
  have e2 := (off_bd h y0 yn bn).lt
  have hs := hf.short h.a0 h.ac nz
  have : 2 ^ k < 2 ^ 2005 := by
    rcases hs with q | q <;> exact Nat.lt_of_le_of_lt q (by assumption)
  exact (Nat.pow_lt_pow_iff_right (by decide)).mp this
theorem atI_zero {α : Type} {x : α} {l : List α} : atI (x :: l) 0 = some x := by
  rw [atI_nn (by omega) (by simp)]; rfl
theorem atI_last {α : Type} {x : α} {l : List α} : atI (x :: l) (-1) = some ((x :: l).getLast (by simp)) := by
  unfold atI ixN
  rw [if_neg (by omega), if_pos (by simp; omega), List.getLast_eq_getElem]
  have e : ((-1 : Int) + ((x :: l).length : Nat)).toNat = l.length := by rw [List.length_cons]; omega
  show (x :: l)[_]? = _
  rw [e, List.getElem?_eq_getElem (by simp)]
  simp
theorem rng_succ {lo : Int} {k : Nat} : rng lo (k + 1) = .int lo :: rng (lo + 1) k := by
  unfold rng
  rw [List.range_succ_eq_map, List.map_cons, List.map_map]
  congr 1
  · congr 1; omega
  · apply List.map_congr_left
    intro i _
    show D.int _ = D.int _
    congr 1
    simp only [Function.comp, Nat.succ_eq_add_one]
    omega
theorem rng_nil {lo : Int} : rng lo 0 = [] := rfl
theorem cutD_tail {α : Type} {x : α} {l : List α} : cutD (x :: l) (some 1) none = l := by
  unfold cutD
  rw [show HT.sIx (x :: l).length 0 (some 1) = 1 from by rw [show (1 : Int) = ((1 : Nat) : Int) from rfl, HT.sIx_nat]; simp, HT.sIx_none]
  simp
theorem snocP {P : Int → Prop} {x : Int} (hx : P x) : ∀ {l : List D}, AllP P l → AllP P (l ++ [.int x])
  | [], _ => ⟨hx, trivial⟩
  | _ :: _, h => ⟨h.1, snocP hx h.2⟩
theorem Tl.closed {a b c d n : Int} (ha : 0 < a) : ∀ {t : List Int} {h y z : Int}, Tl a b c d n h t → y ∈ h :: t → Led a b c d y z → z < n → z ∈ h :: t
  | [], h, y, z, k, hy, hz, zn => by
    rw [List.mem_singleton.mp hy] at hz
    have := k z hz; omega
  | w :: r, h, y, z, k, hy, hz, zn => by
    rcases List.mem_cons.mp hy with rfl | hy
    · rw [Led.fn ha hz k.1]; simp
    · exact List.mem_cons_of_mem h (Tl.closed ha k.2.2 hy hz zn)
theorem Tl.noloop {a b c d n : Int} (ha : 0 < a) : ∀ {t : List Int} {h : Int}, Tl a b c d n h t → h < n → ¬ Led a b c d h h
  | [], h, k, hn, q => by have := k h q; omega
  | w :: r, h, k, hn, q => by
    have := Led.fn ha q k.1
    subst this
    exact Tl.noloop ha k.2.2 hn q
theorem Tl.rw {a b c d n h : Int} {t : List Int} (ht : Tl a b c d n h t) (hh : ∀ z, Led a b c d z h → n ≤ z) : Rw a b c d n (h :: t) h := ⟨[], t, rfl, fun z q => hh z q.symm, ht⟩
theorem allP_map {P : Int → Prop} : ∀ {l : List Int}, (∀ y ∈ l, P y) → AllP P (l.map D.int)
  | [], _ => trivial
  | y :: r, h => ⟨h y (by simp), allP_map fun z hz => h z (by simp [hz])⟩
theorem allI_rng {a b : Int} : ∀ {k : Nat} {lo : Int}, a ≤ lo → lo + k ≤ b + 1 → AllI a b (rng lo k)
  | 0, _, _, _ => trivial
  | k + 1, lo, h, h2 => by
    rw [rng_succ]
    exact ⟨⟨h, by omega⟩, allI_rng (by omega) (by omega)⟩
theorem cop_dvd {a b x : Int} (h : a ∣ b * x) (g : Int.gcd a b = 1) : a ∣ x := by
  have h1 := Int.natAbs_dvd_natAbs.mpr h
  rw [Int.natAbs_mul] at h1
  exact Int.natAbs_dvd_natAbs.mp (Nat.Coprime.dvd_of_dvd_mul_left (k := a.natAbs) (m := b.natAbs) g h1)
/-- being led, told by the distance -/
theorem led_far {a b c d y n : Int} (h1 : 0 < a) (h3 : a < c) (co : Int.gcd a c = 1) (yn : y < n) : (∃ z, Led a b c d y z ∧ z < n) ↔ (W.off a b c d y % a = 0 ∧ W.off a b c d b ≤ W.off a b c d y ∧ W.off a b c d y / a * c ≤ W.off a b c d (n - 1)) := by
  have key : ∀ t, y = a * t + b → W.off a b c d y = a * ((c - a) * t + d - b) ∧ W.off a b c d (c * t + d) = c * ((c - a) * t + d - b) := by
    intro t e
    unfold W.off
    subst e
    constructor <;> grind
  have hb : W.off a b c d b ≤ W.off a b c d y ↔ b ≤ y := by
    unfold W.off
    constructor
    · intro h
      exact Int.le_of_mul_le_mul_left (a := c - a) (by omega) (by omega)
    · intro h
      have := Int.mul_le_mul_of_nonneg_left h (show 0 ≤ c - a by omega)
      omega
  have hz : ∀ z, W.off a b c d z ≤ W.off a b c d (n - 1) ↔ z ≤ n - 1 := by
    intro z
    unfold W.off
    constructor
    · intro h
      exact Int.le_of_mul_le_mul_left (a := c - a) (by omega) (by omega)
    · intro h
      have := Int.mul_le_mul_of_nonneg_left h (show 0 ≤ c - a by omega)
      omega
  constructor
  · rintro ⟨z, ⟨t, t0, e1, e2⟩, zn⟩
    have ⟨k1, k2⟩ := key t e1
    have a0 : 0 ≤ a * t := Int.mul_nonneg (by omega) t0
    refine ⟨by rw [k1, Int.mul_emod_right], hb.mpr (by omega), ?_⟩
    rw [k1, Int.mul_ediv_cancel_left _ (by omega), Int.mul_comm, ← k2, ← e2]
    exact (hz z).mpr (by omega)
  · rintro ⟨q1, q2, q3⟩
    have by_ := hb.mp q2
    have dv : a ∣ c * (y - b) := by
      have e : c * (y - b) = W.off a b c d y + a * (y - d) := by unfold W.off; grind
      rw [e]
      exact Int.dvd_add (Int.dvd_of_emod_eq_zero q1) (Int.dvd_mul_right _ _)
    have dv2 : a ∣ y - b := by
      exact cop_dvd dv co
    obtain ⟨t, e⟩ := dv2
    have t0 : 0 ≤ t := Int.nonneg_of_mul_nonneg_right (a := a) (by omega) h1
    have ⟨k1, k2⟩ := key t (by omega)
    rw [k1, Int.mul_ediv_cancel_left _ (by omega), Int.mul_comm, ← k2] at q3
    have := (hz _).mp q3
    exact ⟨c * t + d, ⟨t, t0, by omega, rfl⟩, by omega⟩
theorem led_far_off {a b c d y z : Int} (h1 : 0 < a) (h : Led a b c d y z) : W.off a b c d y / a * c = W.off a b c d z := by
  obtain ⟨t, t0, rfl, rfl⟩ := h
  have k1 : W.off a b c d (a * t + b) = a * ((c - a) * t + d - b) := by unfold W.off; grind
  have k2 : W.off a b c d (c * t + d) = c * ((c - a) * t + d - b) := by unfold W.off; grind
  rw [k1, Int.mul_ediv_cancel_left _ (by omega), k2, Int.mul_comm]
theorem ahead_far {a b c d y n : Int} (h1 : 0 < a) (h3 : a < c) (co : Int.gcd a c = 1) (yn : y < n) : (∃ z, Led c d a b y z ∧ z < n) ↔ (W.off a b c d y % c = 0 ∧ W.off a b c d d ≤ W.off a b c d y ∧ W.off a b c d y / c * a ≤ W.off a b c d (n - 1)) := by
  have key : ∀ t, y = c * t + d → W.off a b c d y = c * ((c - a) * t + d - b) ∧ W.off a b c d (a * t + b) = a * ((c - a) * t + d - b) := by
    intro t e
    unfold W.off
    subst e
    constructor <;> grind
  have hb : W.off a b c d d ≤ W.off a b c d y ↔ d ≤ y := by
    unfold W.off
    constructor
    · intro h
      exact Int.le_of_mul_le_mul_left (a := c - a) (by omega) (by omega)
    · intro h
      have := Int.mul_le_mul_of_nonneg_left h (show 0 ≤ c - a by omega)
      omega
  have hz : ∀ z, W.off a b c d z ≤ W.off a b c d (n - 1) ↔ z ≤ n - 1 := by
    intro z
    unfold W.off
    constructor
    · intro h
      exact Int.le_of_mul_le_mul_left (a := c - a) (by omega) (by omega)
    · intro h
      have := Int.mul_le_mul_of_nonneg_left h (show 0 ≤ c - a by omega)
      omega
  constructor
  · rintro ⟨z, ⟨t, t0, e1, e2⟩, zn⟩
    have ⟨k1, k2⟩ := key t e1
    have a0 : 0 ≤ c * t := Int.mul_nonneg (by omega) t0
    refine ⟨by rw [k1, Int.mul_emod_right], hb.mpr (by omega), ?_⟩
    rw [k1, Int.mul_ediv_cancel_left _ (by omega), Int.mul_comm, ← k2, ← e2]
    exact (hz z).mpr (by omega)
  · rintro ⟨q1, q2, q3⟩
    have by_ := hb.mp q2
    have dv : c ∣ a * (y - d) := by
      have e : a * (y - d) = c * (y - b) - W.off a b c d y := by unfold W.off; grind
      rw [e]
      exact Int.dvd_sub (Int.dvd_mul_right _ _) (Int.dvd_of_emod_eq_zero q1)
    have dv2 : c ∣ y - d := cop_dvd dv (by rw [Int.gcd_comm]; exact co)
    obtain ⟨t, e⟩ := dv2
    have t0 : 0 ≤ t := Int.nonneg_of_mul_nonneg_right (a := c) (by omega) (by omega)
    have ⟨k1, k2⟩ := key t (by omega)
    rw [k1, Int.mul_ediv_cancel_left _ (by omega), Int.mul_comm, ← k2] at q3
    have := (hz _).mp q3
    exact ⟨a * t + b, ⟨t, t0, by omega, rfl⟩, by omega⟩
theorem ahead_far_off {a b c d y z : Int} (h1 : 0 < c) (h : Led c d a b y z) : W.off a b c d y / c * a = W.off a b c d z := by
  obtain ⟨t, t0, rfl, rfl⟩ := h
  have k1 : W.off a b c d (c * t + d) = c * ((c - a) * t + d - b) := by unfold W.off; grind
  have k2 : W.off a b c d (a * t + b) = a * ((c - a) * t + d - b) := by unfold W.off; grind
  rw [k1, Int.mul_ediv_cancel_left _ (by omega), k2, Int.mul_comm]
theorem Tl.ex_up {a b c d n M : Int} (h1 : 0 < a) (h3 : a < c) (h4 : 0 ≤ d) (hM : ∀ y, 0 ≤ y → y < n → ((W.off a b c d y).natAbs : Int) < M) : ∀ (k : Nat) (y : Int), 0 ≤ y → y < n → W.off a b c d y ≠ 0 → (M - (W.off a b c d y).natAbs).toNat < k → ∃ l, Tl a b c d n y l
  | 0, _, _, _, _, h => by omega
  | k + 1, y, y0, yn, nz, h => by
    by_cases q : ∃ z, Led a b c d y z ∧ z < n
    · obtain ⟨z, hz, zn⟩ := q
      have z0 : 0 ≤ z := Led.nn h4 (by omega) hz.symm
      have g := hz.grow h1 h3 nz
      have g2 := hM z z0 zn
      obtain ⟨l, hl⟩ := Tl.ex_up h1 h3 h4 hM k z z0 zn ((hz.nz h1 h3).mp nz) (by omega)
      exact ⟨z :: l, hz, zn, hl⟩
    · exact ⟨[], fun z hz => Int.not_lt.mp fun zn => q ⟨z, hz, zn⟩⟩
theorem Tl.ex_dn {a b c d n : Int} (h1 : 0 < a) (h2 : 0 ≤ b) (h3 : a < c) : ∀ (k : Nat) (y : Int), 0 ≤ y → y < n → W.off a b c d y ≠ 0 → (W.off a b c d y).natAbs < k → ∃ l, Tl c d a b n y l
  | 0, _, _, _, _, h => by omega
  | k + 1, y, y0, yn, nz, h => by
    by_cases q : ∃ z, Led c d a b y z ∧ z < n
    · obtain ⟨z, hz, zn⟩ := q
      have z0 : 0 ≤ z := Led.nn h2 (by omega) hz.symm
      have nz2 := (hz.symm.nz h1 h3).mpr nz
      have g := hz.symm.grow h1 h3 nz2
      obtain ⟨l, hl⟩ := Tl.ex_dn h1 h2 h3 k z z0 zn nz2 (by omega)
      exact ⟨z :: l, hz, zn, hl⟩
    · exact ⟨[], fun z hz => Int.not_lt.mp fun zn => q ⟨z, hz, zn⟩⟩
theorem Tl.last_mem {α : Type} {x : α} {l : List α} : (x :: l).getLast (by simp) ∈ x :: l := List.getLast_mem _
/-- both sides of a beat's row, short -/
theorem Rw.ex {a b c d n x : Int} {k : Nat} (hc : Cn a b c d) (hB : ∀ y, 0 ≤ y → y < n → Bd k (W.off a b c d y)) (x0 : 0 ≤ x) (xn : x < n) (nz : W.off a b c d x ≠ 0) :
    ∃ l1 l2, Tl c d a b n x l1 ∧ Tl a b c d n x l2 ∧ l1.length < k ∧ l2.length < k := by
  have ⟨h1, h2, h3, h4, _, _, _, _⟩ := hc
  obtain ⟨l1, t1⟩ := Tl.ex_dn (n := n) h1 h2 h3 _ x x0 xn nz (Nat.lt_succ_self _)
  obtain ⟨l2, t2⟩ := Tl.ex_up (n := n) (M := ((2 ^ k : Nat) : Int)) h1 h3 h4 (fun y y0 yn => Int.ofNat_lt.mpr (hB y y0 yn).lt) _ x x0 xn nz (Nat.lt_succ_self _)
  refine ⟨l1, l2, t1, t2, ?_, ?_⟩
  · have m := List.getLast_mem (l := x :: l1) (by simp)
    have f := (Ch.far t1.ch).symm
    have y0 := Tl.nn h2 (by omega) x0 t1 _ m
    have yn := Tl.below xn t1 _ m
    have nz2 := (Far.nz h1 h3 f).mpr nz
    have hs := f.short h1 h3 nz2
    have e1 := (hB _ y0 yn).lt
    have e2 := (hB _ x0 xn).lt
    refine (Nat.pow_lt_pow_iff_right (show 1 < 2 by decide)).mp ?_
    rcases hs with q | q <;> exact Nat.lt_of_le_of_lt q (by assumption)
  · have m := List.getLast_mem (l := x :: l2) (by simp)
    have f := Ch.far t2.ch
    have y0 := Tl.nn h4 (by omega) x0 t2 _ m
    have yn := Tl.below xn t2 _ m
    have hs := f.short h1 h3 nz
    have e1 := (hB _ y0 yn).lt
    have e2 := (hB _ x0 xn).lt
    refine (Nat.pow_lt_pow_iff_right (show 1 < 2 by decide)).mp ?_
    rcases hs with q | q <;> exact Nat.lt_of_le_of_lt q (by assumption)
theorem rint {R : Rs → Prop} {z w : Int} (k : R (.val (.int z))) (e : w = z) : R (.val (.int w)) := e ▸ k
theorem deq_cons_nil {x : D} {l : List D} : deq (.lst (x :: l)) (.lst []) = false := Bool.eq_false_iff.mpr fun h => by cases deq_iff.mp h
theorem atI_one {α : Type} {x y : α} {l : List α} : atI (x :: y :: l) 1 = some y := by
  rw [atI_nn (by omega) (by simp; omega)]; rfl
/-- a canon of any kind -/
structure CnB (a b c d : Int) : Prop where
  cn : Cn a b c d
  a1 : a < 10 ^ 16
  c1 : c < 10 ^ 17
  b1 : b < 10 ^ 38
  d1 : d < 10 ^ 28
theorem cnB {a b c d : Int} (a0 : 0 < a) (b0 : 0 ≤ b) (ac : a < c) (d0 : 0 ≤ d) (a1 : a < 10 ^ 16) (c1 : c < 10 ^ 17) (b1 : b < 10 ^ 38) (d1 : d < 10 ^ 28) : CnB a b c d := ⟨.mk' a0 b0 ac d0 (by omega) (by omega) (by omega), a1, c1, b1, d1⟩
theorem eqOk_ints {n : Nat} {l : List Int} : eqOk (n + 1) (.lst (l.map D.int)) := eqOk_lst fun d hd => by
  obtain ⟨i, _, rfl⟩ := List.mem_map.mp hd
  exact eqOk_int
theorem rising_eq : ∀ {l m : List Int}, l.Pairwise (· < ·) → m.Pairwise (· < ·) → (∀ k, k ∈ l ↔ k ∈ m) → l = m
  | [], [], _, _, _ => rfl
  | [], b :: m, _, _, h => by have := (h b).mpr (List.mem_cons_self ..); cases this
  | a :: l, [], _, _, h => by have := (h a).mp (List.mem_cons_self ..); cases this
  | a :: l, b :: m, hl, hm, h => by
    obtain ⟨l1, l2⟩ := List.pairwise_cons.mp hl
    obtain ⟨m1, m2⟩ := List.pairwise_cons.mp hm
    have e : a = b := by
      rcases List.mem_cons.mp ((h a).mp (List.mem_cons_self ..)) with q | q
      · exact q
      rcases List.mem_cons.mp ((h b).mpr (List.mem_cons_self ..)) with q2 | q2
      · exact q2.symm
      have := l1 _ q2
      have := m1 _ q
      omega
    subst e
    rw [rising_eq l2 m2 fun k => ?_]
    have := h k
    simp only [List.mem_cons] at this
    constructor
    · intro hk
      rcases this.mp (.inr hk) with q | q
      · have := l1 _ hk; omega
      · exact q
    · intro hk
      rcases this.mpr (.inr hk) with q | q
      · have := m1 _ hk; omega
      · exact q
/-- a comprehension that maps, by what its state keeps -/
theorem Lc.maps {α : Type} {g : DG} {f : DE} {vs : List Nat} {Q : List D → SS → Prop} (St : SS → Prop) (rd gg : α → D) (xs : List α) {S : SS} (h0 : St S)
    (hs : ∀ x ∈ xs, ∀ S0, St S0 → ∀ P : D → SS → Prop, (∀ S', St S' → P (gg x) S') → g (rd x) (wipeS S0 vs) fun S1 => f S1 fun o S3 => P o (unw S0 S3 vs))
    (hQ : ∀ S', St S' → Q (xs.map gg) S') : Lc g dYes f vs (xs.map rd) S Q := by
  refine Lc.inv (fun acc r S => ∃ l1 l2, xs = l1 ++ l2 ∧ acc = l1.map gg ∧ r = l2.map rd ∧ St S) ⟨[], xs, rfl, rfl, rfl, h0⟩ ?_ ?_
  · rintro acc S ⟨l1, l2, e, rfl, hr, h⟩
    have : l2 = [] := List.map_eq_nil_iff.mp hr.symm
    subst this
    rw [List.append_nil] at e
    subst e
    exact hQ _ h
  · rintro acc d r S ⟨l1, l2, e, rfl, hr, h⟩
    rcases l2 with _ | ⟨x, l2⟩
    · cases hr
    rw [List.map_cons] at hr
    obtain ⟨rfl, rfl⟩ := List.cons.inj hr
    have := hs x (by simp [e]) S h (fun o S' => ∃ l1' l2', xs = l1' ++ l2' ∧ l1.map gg ++ [o] = l1'.map gg ∧ l2.map rd = l2'.map rd ∧ St S') fun S' h' => ⟨l1 ++ [x], l2, by simp [e], by simp, rfl, h'⟩
    show g (rd x) (wipeS S vs) fun S1 => _
    have e2 : (fun S1 : SS => f S1 fun o S3 => ∃ l1' l2', xs = l1' ++ l2' ∧ l1.map gg ++ [o] = l1'.map gg ∧ l2.map rd = l2'.map rd ∧ St (unw S S3 vs)) = (fun S1 : SS => dYes S1 fun k S2 => (k = true → f S2 fun o S3 => ∃ l1' l2', xs = l1' ++ l2' ∧ l1.map gg ++ [o] = l1'.map gg ∧ l2.map rd = l2'.map rd ∧ St (unw S S3 vs)) ∧ (k = false → ∃ l1' l2', xs = l1' ++ l2' ∧ l1.map gg = l1'.map gg ∧ l2.map rd = l2'.map rd ∧ St (unw S S2 vs))) := by
      funext S1
      show _ = ((true = true → _) ∧ (true = false → _))
      simp
    exact e2 ▸ this
/-- a comprehension with a test -/
theorem Lc.sels {α : Type} {g : DG} {t : DT} {f : DE} {vs : List Nat} {Q : List D → SS → Prop} (St : SS → Prop) (rd gg : α → D) (p : α → Bool) (xs : List α) {S : SS} (h0 : St S)
    (hs : ∀ x ∈ xs, ∀ S0, St S0 → ∀ (P : D → SS → Prop) (P0 : SS → Prop), (p x = true → ∀ S', St S' → P (gg x) S') → (p x = false → ∀ S', St S' → P0 S') →
      g (rd x) (wipeS S0 vs) fun S1 => t S1 fun k S2 => (k = true → f S2 fun o S3 => P o (unw S0 S3 vs)) ∧ (k = false → P0 (unw S0 S2 vs)))
    (hQ : ∀ S', St S' → Q ((xs.filter p).map gg) S') : Lc g t f vs (xs.map rd) S Q := by
  refine Lc.inv (fun acc r S => ∃ l1 l2, xs = l1 ++ l2 ∧ acc = (l1.filter p).map gg ∧ r = l2.map rd ∧ St S) ⟨[], xs, rfl, rfl, rfl, h0⟩ ?_ ?_
  · rintro acc S ⟨l1, l2, e, rfl, hr, h⟩
    have : l2 = [] := List.map_eq_nil_iff.mp hr.symm
    subst this
    rw [List.append_nil] at e
    subst e
    exact hQ _ h
  · rintro acc d r S ⟨l1, l2, e, rfl, hr, h⟩
    rcases l2 with _ | ⟨x, l2⟩
    · cases hr
    rw [List.map_cons] at hr
    obtain ⟨rfl, rfl⟩ := List.cons.inj hr
    exact hs x (by simp [e]) S h (fun o S' => ∃ l1' l2', xs = l1' ++ l2' ∧ (l1.filter p).map gg ++ [o] = (l1'.filter p).map gg ∧ l2.map rd = l2'.map rd ∧ St S') (fun S' => ∃ l1' l2', xs = l1' ++ l2' ∧ (l1.filter p).map gg = (l1'.filter p).map gg ∧ l2.map rd = l2'.map rd ∧ St S')
      (fun hp S' h' => ⟨l1 ++ [x], l2, by simp [e], by simp [hp], rfl, h'⟩) (fun hp S' h' => ⟨l1 ++ [x], l2, by simp [e], by simp [hp], rfl, h'⟩)
/-- whole numbers from lo on -/
def rngI (lo : Int) (k : Nat) : List Int := (List.range k).map fun (i : Nat) => lo + (i : Int)
theorem rng_I {lo : Int} {k : Nat} : rng lo k = (rngI lo k).map DL.D.int := by
  unfold rng rngI
  rw [List.map_map]; rfl
theorem rngI_succ {lo : Int} {k : Nat} : rngI lo (k + 1) = lo :: rngI (lo + 1) k := by
  unfold rngI
  rw [List.range_succ_eq_map, List.map_cons, List.map_map]
  congr 1
  · simp
  · refine List.map_congr_left fun i _ => ?_
    simp only [Function.comp_apply]
    omega
theorem rngI_mem {lo x : Int} {k : Nat} : x ∈ rngI lo k ↔ lo ≤ x ∧ x < lo + k := by
  unfold rngI
  simp only [List.mem_map, List.mem_range]
  constructor
  · rintro ⟨i, hi, rfl⟩; omega
  · intro h; exact ⟨(x - lo).toNat, by omega, by omega⟩
theorem rngI_len {lo : Int} {k : Nat} : (rngI lo k).length = k := by simp [rngI]
theorem rngI_ris {lo : Int} {k : Nat} : (rngI lo k).Pairwise (· < ·) := by
  unfold rngI
  refine List.pairwise_map.mpr ((List.pairwise_lt_range).imp fun {a b} h => by omega)
/-- a loop over a range that gathers -/
theorem For.gath {α : Type} {g : DG} {b : DS} {E : DEnds} {S : SS} (lo : Int) (k : Nat) (St : List α → SS → Prop) (f : Int → List α) {a0 : List α} (h0 : St a0 S)
    (hs : ∀ i, lo ≤ i → i < lo + k → ∀ acc rest : List α, a0 ++ (rngI lo k).flatMap f = acc ++ (f i ++ rest) → ∀ S0, St acc S0 → ∀ N : SS → Prop, (∀ S', St (acc ++ f i) S' → N S') → g (.int i) S0 fun S1 => b { nx := N, rt := E.rt, bk := E.nx, ct := N } S1)
    (h1 : ∀ S', St (a0 ++ (rngI lo k).flatMap f) S' → E.nx S') : For g b (rng lo k) E S := by
  refine For.inv (fun r S => ∃ l1 l2, rngI lo k = l1 ++ l2 ∧ r = l2.map DL.D.int ∧ St (a0 ++ l1.flatMap f) S) ⟨[], _, rfl, rng_I, by simpa using h0⟩ ?_ ?_
  · rintro S1 ⟨l1, l2, e, hr, q⟩
    have : l2 = [] := List.map_eq_nil_iff.mp hr.symm
    subst this
    rw [List.append_nil] at e
    subst e
    exact h1 _ q
  · rintro d r S0 ⟨l1, l2, e, hr, q⟩
    rcases l2 with _ | ⟨i, l2⟩
    · cases hr
    obtain ⟨rfl, rfl⟩ := List.cons.inj hr
    have ⟨i0, i1⟩ := rngI_mem.mp (show i ∈ rngI lo k by simp [e])
    exact hs i i0 i1 _ (l2.flatMap f) (by simp [e]) S0 q _ fun S' q' => ⟨l1 ++ [i], l2, by simp [e], rfl, by simpa using q'⟩
theorem flat_len {α : Type} {f : Int → List α} {m : Nat} : ∀ {l : List Int}, (∀ i ∈ l, (f i).length ≤ m) → (l.flatMap f).length ≤ l.length * m
  | [], _ => by simp
  | a :: l, h => by
    have := flat_len (m := m) (l := l) fun i hi => h i (List.mem_cons_of_mem _ hi)
    have := h a (List.mem_cons_self ..)
    rw [List.flatMap_cons, List.length_append, List.length_cons, Nat.add_mul]
    omega
theorem flat_one {α β : Type} {f : α → β} : ∀ {l : List α}, l.flatMap (fun x => [f x]) = l.map f
  | [] => rfl
  | a :: l => by rw [List.flatMap_cons, flat_one, List.map_cons]; rfl
theorem flat_nd {α : Type} {f : Int → List α} : ∀ {l : List Int}, l.Nodup → (∀ i ∈ l, (f i).Nodup) → (∀ i ∈ l, ∀ j ∈ l, ∀ x, x ∈ f i → x ∈ f j → i = j) → (l.flatMap f).Nodup
  | [], _, _, _ => by simp
  | a :: l, h0, h, k => by
    rw [List.flatMap_cons]
    obtain ⟨n1, n2⟩ := List.nodup_cons.mp h0
    refine List.nodup_append.mpr ⟨h a (List.mem_cons_self ..), flat_nd n2 (fun i hi => h i (List.mem_cons_of_mem _ hi)) fun i hi j hj => k i (List.mem_cons_of_mem _ hi) j (List.mem_cons_of_mem _ hj), ?_⟩
    intro x hx y hy e
    subst e
    obtain ⟨j, hj, hx2⟩ := List.mem_flatMap.mp hy
    have := k a (List.mem_cons_self ..) j (List.mem_cons_of_mem _ hj) x hx hx2
    subst this
    exact n1 hj
theorem ris_nd {l : List Int} (h : l.Pairwise (· < ·)) : l.Nodup := h.imp fun {a b} w e => by omega
/-- the least of a list and a bound -/
def minL (m : Int) : List Int → Int
  | [] => m
  | x :: l => if x < minL m l then x else minL m l
theorem minL_le {m : Int} : ∀ {l : List Int}, minL m l ≤ m ∧ ∀ x ∈ l, minL m l ≤ x
  | [] => ⟨Int.le_refl _, fun x hx => by cases hx⟩
  | y :: l => by
    have ⟨h1, h2⟩ := minL_le (m := m) (l := l)
    unfold minL
    split
    · exact ⟨by omega, fun x hx => by
        rcases List.mem_cons.mp hx with rfl | hx
        · omega
        · have := h2 x hx; omega⟩
    · exact ⟨h1, fun x hx => by
        rcases List.mem_cons.mp hx with rfl | hx
        · omega
        · exact h2 x hx⟩
theorem minL_mem {m : Int} : ∀ {l : List Int}, minL m l = m ∨ minL m l ∈ l
  | [] => .inl rfl
  | y :: l => by
    unfold minL
    split
    · exact .inr (List.mem_cons_self ..)
    · rcases minL_mem (m := m) (l := l) with q | q
      · exact .inl q
      · exact .inr (List.mem_cons_of_mem _ q)
/-- the tune's beat -/
def nt (T : List Int) (i : Int) : Int := T.getD i.toNat 0
theorem atI_nt {T : List Int} {i : Int} (h0 : 0 ≤ i) (h1 : i < T.length) : atI (T.map DL.D.int) i = some (.int (nt T i)) := by
  rw [atI_nn h0 (by rw [List.length_map]; exact h1), List.getElem?_map, List.getElem?_eq_getElem (by omega)]
  show _ = some (DL.D.int (T.getD i.toNat 0))
  rw [List.getD_eq_getElem?_getD, List.getElem?_eq_getElem (by omega)]; rfl
theorem nt_mem {T : List Int} {i : Int} (h0 : 0 ≤ i) (h1 : i < T.length) : nt T i ∈ T := by
  unfold nt
  rw [List.getD_eq_getElem?_getD, List.getElem?_eq_getElem (by omega)]
  exact List.getElem_mem ..
abbrev chD (c : List Int) : D := .tup (c.map D.int)
/-- a chord of a table of n notes and v voices -/
structure Chd (n v : Int) (c : List Int) : Prop where
  len : (c.length : Int) = v
  ok : ∀ x ∈ c, 0 ≤ x ∧ x < n
theorem cut_init {T : List Int} : cutD (T.map DL.D.int) none (some (-1)) = T.dropLast.map DL.D.int := by
  rw [← cut_map]
  congr 1
  unfold cutD
  rw [HT.sIx_none]
  have e : HT.sIx T.length T.length (some (-1)) = T.length - 1 := by
    show (if (-1 : Int) < 0 then (-1 + (T.length : Int)).toNat else min (-1 : Int).toNat T.length) = _
    rw [if_pos (by omega)]
    omega
  rw [e, List.drop_zero, List.dropLast_eq_take, Nat.sub_zero]
theorem ixN_in {n : Nat} {i : Int} (h0 : 0 ≤ i) (h1 : i < n) : ixN n i = some i.toNat := by
  unfold ixN
  rw [if_pos h0, if_pos h1]
theorem memD_ch {A : List (List Int)} {c : List Int} : memD (chD c) (A.map chD) = decide (c ∈ A) := by
  by_cases h : c ∈ A
  · rw [decide_eq_true h, memD_iff.mpr (List.mem_map.mpr ⟨c, h, rfl⟩)]
  · rw [decide_eq_false h, memD_ff]
    intro w
    obtain ⟨e, he, q⟩ := List.mem_map.mp w
    have : e = c := List.map_inj_right (fun a b e => DL.D.int.inj e) |>.mp (DL.D.tup.inj q)
    exact h (this ▸ he)
theorem chD_ok {n : Nat} {c : List Int} : eqOk (n + 1) (chD c) := fun d hd => by
  obtain ⟨x, _, rfl⟩ := List.mem_map.mp hd
  exact eqOk_int
theorem chs_ok {A : List (List Int)} : ∀ x ∈ A.map chD, eqOk 19 x := fun x hx => by
  obtain ⟨c, _, rfl⟩ := List.mem_map.mp hx
  exact chD_ok
/-- a loop over a range, with what each turn shows -/
theorem For.each {g : DG} {b : DS} {E : DEnds} {S : SS} (lo : Int) (k : Nat) (St : SS → Prop) (P : Int → Prop) (h0 : St S)
    (hs : ∀ i, lo ≤ i → i < lo + k → (∀ j, lo ≤ j → j < i → P j) → ∀ S0, St S0 → ∀ N : SS → Prop, (P i → ∀ S', St S' → N S') → g (.int i) S0 fun S1 => b { nx := N, rt := E.rt, bk := E.nx, ct := N } S1)
    (h1 : (∀ j, lo ≤ j → j < lo + k → P j) → ∀ S', St S' → E.nx S') : For g b (rng lo k) E S := by
  refine For.inv (fun r S => ∃ (i : Int) (m : Nat), r = rng i m ∧ lo ≤ i ∧ i + m = lo + k ∧ (∀ j, lo ≤ j → j < i → P j) ∧ St S) ⟨lo, k, rfl, by omega, rfl, fun j h1 h2 => by omega, h0⟩ ?_ ?_
  · rintro S1 ⟨i, m, hr, hi, hk, hp, q⟩
    have : m = 0 := by
      have := congrArg List.length hr
      simp [rng] at this
      omega
    subst this
    exact h1 (fun j j0 j1 => hp j j0 (by omega)) _ q
  · rintro d r S0 ⟨i, m, hr, hi, hk, hp, q⟩
    rcases m with _ | m
    · cases hr
    rw [rng_succ] at hr
    obtain ⟨rfl, rfl⟩ := List.cons.inj hr
    exact hs i hi (by omega) hp S0 q _ fun pi S' q' => ⟨i + 1, m, rfl, by omega, by omega, fun j j0 j1 => by
      by_cases e : j = i
      · subst e; exact pi
      · exact hp j j0 (by omega), q'⟩
/-- the turns of a comprehension that gathers into a list -/
theorem Tn.gath {α : Type} {g : DG} {t : DT} {body : Body} {vs : List Nat} {S : SS} {R : Ct → SS → Prop} (St : SS → Prop) (rd : α → D) (f : α → List D) (xs : List α) (a0 : List D) (h0 : St S)
    (hs : ∀ x ∈ xs, ∀ acc rest : List D, a0 ++ xs.flatMap f = acc ++ (f x ++ rest) → ∀ S0, St S0 → ∀ N : Ct → SS → Prop, (∀ S', St S' → N (.lst (acc ++ f x)) S') → g (rd x) (wipeS S0 vs) fun S1 => t S1 fun k S2 => (k = true → body (.lst acc) S2 fun c' S3 => N c' (unw S0 S3 vs)) ∧ (k = false → N (.lst acc) (unw S0 S2 vs)))
    (h1 : ∀ S', St S' → R (.lst (a0 ++ xs.flatMap f)) S') : Tn g t body vs (xs.map rd) (.lst a0) S R := by
  refine ⟨fun c r S => ∃ l1 l2, xs = l1 ++ l2 ∧ r = l2.map rd ∧ c = .lst (a0 ++ l1.flatMap f) ∧ St S, ⟨[], xs, rfl, rfl, by simp, h0⟩, ?_, ?_⟩
  · rintro c S1 ⟨l1, l2, e, hr, rfl, q⟩
    have : l2 = [] := List.map_eq_nil_iff.mp hr.symm
    subst this
    rw [List.append_nil] at e
    subst e
    exact h1 _ q
  · rintro c d r S0 ⟨l1, l2, e, hr, rfl, q⟩
    rcases l2 with _ | ⟨x, l2⟩
    · cases hr
    obtain ⟨rfl, rfl⟩ := List.cons.inj hr
    exact hs x (by simp [e]) _ (l2.flatMap f) (by simp [e]) S0 q (fun c S => ∃ l1' l2', xs = l1' ++ l2' ∧ l2.map rd = l2'.map rd ∧ c = .lst (a0 ++ l1'.flatMap f) ∧ St S) fun S' q' => ⟨l1 ++ [x], l2, by simp [e], rfl, by simp, q'⟩
/-- a round fits for ever -/
def Fv (A : List (List Int)) (T : List Int) (a b c d : Int) : Prop := ∀ t : Int, 0 ≤ t → t < T.length → [nt T ((a * t + b) % T.length), nt T ((c * t + d) % T.length)] ∈ A
def FvN (A : List (List Int)) (T : List Int) : List Int → Prop
  | [a, b, c, d] => Fv A T a b c d
  | _ => False
noncomputable instance {A : List (List Int)} {T N : List Int} : Decidable (FvN A T N) := Classical.propDecidable _
theorem lin_mod {a a' b t p : Int} (h : a % p = a' % p) : (a * t + b) % p = (a' * t + b) % p := by
  rw [Int.add_emod, Int.mul_emod, h, ← Int.mul_emod, ← Int.add_emod]
theorem Fv.mod {A : List (List Int)} {T : List Int} {a b c d a' c' : Int} (ha : a % T.length = a' % T.length) (hc : c % T.length = c' % T.length) : Fv A T a b c d ↔ Fv A T a' b c' d := by
  unfold Fv
  refine forall_congr' fun t => forall_congr' fun _ => forall_congr' fun _ => ?_
  rw [lin_mod ha, lin_mod hc]
theorem Fv.perm {A B : List (List Int)} {T : List Int} {a b c d : Int} (h : A.Perm B) : Fv A T a b c d ↔ Fv B T a b c d := by
  unfold Fv
  refine forall_congr' fun t => forall_congr' fun _ => forall_congr' fun _ => h.mem_iff
theorem FvN.perm {A B : List (List Int)} {T N : List Int} (h : A.Perm B) : FvN A T N ↔ FvN B T N := by
  unfold FvN
  split
  · exact Fv.perm h
  · exact Iff.rfl
abbrev chK (c : List Int) : TKey := c.map Sum.inl
abbrev chP (c : List Int) : TKey × D := (chK c, .bl true)
theorem inl_inj : ∀ {c e : List Int}, chK c = chK e → c = e
  | [], [], _ => rfl
  | [], _ :: _, h => by cases h
  | _ :: _, [], h => by cases h
  | x :: c, y :: e, h => by
    obtain ⟨h1, h2⟩ := List.cons.inj h
    cases h1
    rw [inl_inj h2]
theorem chP_mem {C : List (List Int)} {c : List Int} : chK c ∈ (C.map chP).map (·.1) ↔ c ∈ C := by
  constructor
  · intro h
    obtain ⟨p, hp, e⟩ := List.mem_map.mp h
    obtain ⟨d, hd, rfl⟩ := List.mem_map.mp hp
    rw [← inl_inj e]; exact hd
  · exact fun h => List.mem_map.mpr ⟨_, List.mem_map.mpr ⟨c, h, rfl⟩, rfl⟩
theorem look_chP {C : List (List Int)} {c : List Int} : (lookT (C.map chP) (chK c)).isSome = decide (c ∈ C) := by
  by_cases h : c ∈ C
  · rw [decide_eq_true h]
    cases e : lookT (C.map chP) (chK c) with
    | some _ => rfl
    | none => exact absurd (chP_mem.mpr h) (lookT_none.mp e)
  · rw [decide_eq_false h, lookT_none.mpr fun w => h (chP_mem.mp w)]; rfl
theorem put_chP {C : List (List Int)} {c : List Int} (h : c ∉ C) : putT (C.map chP) (chK c) (.bl true) = (C ++ [c]).map chP := by
  rw [putT_new (lookT_none.mpr fun w => h (chP_mem.mp w)), List.map_append]; rfl
theorem source_wp {i : Int} {R : Rs → Prop} (k : ∀ s, Src 0 s → R (.own s)) : phi__law_source_of [.int i] R := by
  refine ⟨rfl, ?_⟩
  walk_at "go"
  exact k _ ⟨_, _, _, rfl, Int.emod_nonneg _ (by decide), Int.emod_lt_of_pos _ (by decide), by decide, by decide⟩
theorem next_wp {a b c : Int} (m : Int) {R : Rs → Ct → Prop} (hm : 0 < m) (hm2 : m < 2 ^ 200) (hb : 0 ≤ b ∧ b < 2147483647) (hc : 0 ≤ c ∧ c < 2 ^ 50)
   (k : ∀ v a' c', 0 ≤ v → v < m → c ≤ c' → c' ≤ c + 1 → R (.val (.int v)) (.lst [.int a', .int b, .int c'])) : phi__law_next (.lst [.int a, .int b, .int c]) [.int m] R := by
  refine ⟨rfl, ?_⟩
  walk_at "go"
  refine ⟨?_, ?_⟩
  · intro h
    have hd : DivOk a m := divOk_bd (k := 200) hm ⟨by omega⟩ (by decide)
    walk_at "go"
    exact k _ _ _ (Int.emod_nonneg _ (by omega)) (Int.emod_lt_of_pos _ hm) (by omega) (by omega)
  · intro h
    walk_at "go"
    obtain ⟨p, e, p, rfl, h1, h2⟩ := atI_ok (l := [D.int 2147483647, D.int 2147483629, D.int 2147483587, D.int 2147483579, D.int 2147483563, D.int 2147483549, D.int 2147483543]) (i := (c + 1) % 7) (fun d => ∃ p, d = .int p ∧ 2147483543 ≤ p ∧ p ≤ 2147483647) (by simp) (by omega) (by simp; omega)
    rw [e]
    walk_at "go"
    have f0 := Int.emod_nonneg ((b + 7919 * (c + 1) + 1) ^ 5) (show p ≠ 0 by omega)
    have f1 := Int.emod_lt_of_pos ((b + 7919 * (c + 1) + 1) ^ 5) (show 0 < p by omega)
    generalize (b + 7919 * (c + 1) + 1) ^ 5 % p = f at f0 f1
    walk_at "go"
    exact k _ _ _ (Int.emod_nonneg _ (by omega)) (Int.emod_lt_of_pos _ hm) (by omega) (by omega)
theorem draw {n : Nat} {s : Ct} (hs : Src n s) (m : Int) {R : Rs → Ct → Prop} (hm : 0 < m) (hm2 : m < 2 ^ 200) (hn : n < 2 ^ 50)
   (k : ∀ v s', 0 ≤ v → v < m → Src (n + 1) s' → R (.val (.int v)) s') : phi__law_next s [.int m] R := by
  obtain ⟨a, b, c, rfl, h1, h2, h3, h4⟩ := hs
  exact next_wp m hm hm2 ⟨h1, h2⟩ ⟨h3, by omega⟩ fun v a' c' v0 v1 c0 c1 => k _ _ v0 v1 ⟨a', b, c', rfl, h1, h2, by omega, by omega⟩
theorem one_wp {n : Nat} {s : Ct} (hs : Src n s) {l : List D} (lo hi : Int) {R : Rs → Ct → Prop} (h0 : 0 < l.length) (h1 : l.length < 1000) (hA : AllI lo hi l) (hn : n < 2 ^ 50)
   (k : ∀ v s', lo ≤ v → v ≤ hi → Src (n + 1) s' → R (.val (.int v)) s') : phi__law_one s [.lst l] R := by
  refine ⟨rfl, ?_⟩
  walk_at "go"
  refine draw hs l.length (by omega) (by omega) hn fun v s' v0 v1 hs' => ?_
  walk_at "go"
  obtain ⟨d, e, x, rfl, h2, h3⟩ := atI_ok (i := v) _ hA.mem v0 v1
  rw [e]
  exact k _ _ h2 h3 hs'
theorem one_all {n : Nat} {s : Ct} (hs : Src n s) {l : List D} (P : Int → Prop) {R : Rs → Ct → Prop} (h0 : 0 < l.length) (h1 : l.length < 1000) (hA : AllP P l) (hn : n < 2 ^ 50)
   (k : ∀ v s', P v → Src (n + 1) s' → R (.val (.int v)) s') : phi__law_one s [.lst l] R := by
  refine ⟨rfl, ?_⟩
  walk_at "go"
  refine draw hs l.length (by omega) (by omega) hn fun v s' v0 v1 hs' => ?_
  walk_at "go"
  obtain ⟨d, e, x, rfl, h2⟩ := atI_ok (i := v) _ hA.mem v0 v1
  rw [e]
  exact k _ _ h2 hs'
def prsF (N : Nat) : List (List Int) := (rngI 0 N).flatMap fun a => (rngI 0 N).map fun b => [a, b]
theorem prsF_ok {N : Nat} : ∀ c ∈ prsF N, Chd N 2 c := fun c hc => by
  obtain ⟨a, ha, hc⟩ := List.mem_flatMap.mp hc
  obtain ⟨b, hb, rfl⟩ := List.mem_map.mp hc
  have ⟨a0, a1⟩ := rngI_mem.mp ha
  have ⟨b0, b1⟩ := rngI_mem.mp hb
  refine ⟨rfl, fun x hx => ?_⟩
  rcases List.mem_cons.mp hx with rfl | hx
  · omega
  · rw [List.mem_singleton.mp hx]; omega
theorem prsF_nd {N : Nat} : (prsF N).Nodup := by
  refine flat_nd (ris_nd rngI_ris) (fun a _ => ?_) fun a _ b _ x hx hy => ?_
  · exact List.pairwise_map.mpr ((ris_nd rngI_ris).imp fun {a b} w e => w (by injection e with _ e; injection e))
  · obtain ⟨c, _, rfl⟩ := List.mem_map.mp hx
    obtain ⟨d, _, e⟩ := List.mem_map.mp hy
    injection e with e; exact e.symm
theorem prsF_len {N : Nat} (h : N ≤ 4) : (prsF N).length ≤ 16 := by
  have := flat_len (f := fun a => (rngI 0 N).map fun b => [a, b]) (m := 4) (l := rngI 0 N) fun i _ => by rw [List.length_map, rngI_len]; exact h
  rw [rngI_len] at this
  unfold prsF
  omega
theorem pairs_wp {m : Nat} {s : Ct} (hs : Src m s) (hm : m < 2 ^ 40) {R : Rs → Ct → Prop}
    (k : ∀ (n : Int) (C : List (List Int)) (s' : Ct), 1 ≤ n → n ≤ 4 → (∀ c ∈ C, Chd n 2 c) → C.Nodup → C.length ≤ 16 → Src (m + 18) s' → R (.val (.tup [.int n, .lst (C.map chD)])) s') : phi__law_pairs s [] R := by
  refine ⟨rfl, ?_⟩
  walk_at "go"
  refine draw hs 4 (by decide) (by decide) (by omega) fun v s v0 v1 hs => ?_
  walk_at "go"
  refine one_wp hs 2 100 (by walk_at "len") (by walk_at "len") (by walk_at "alli") (by omega) fun t s t0 t1 hs => ?_
  walk_at "go"
  obtain ⟨N, hN⟩ : ∃ N : Nat, 1 + v = N := ⟨(1 + v).toNat, by omega⟩
  rw [hN, show ((N : Int)).toNat = N by omega]
  have N4 : N ≤ 4 := by omega
  refine For.gath 0 N (fun acc S => ∃ s4 s6, S = [.own s, .val (.int N), .val (.int t), .val (.lst (acc.map chD)), s4, .free, s6]) (fun a => (rngI 0 N).map fun b => [a, b]) (a0 := []) ⟨_, _, rfl⟩ ?_ ?_
  · rintro i i0 i1 acc rest e S0 ⟨s4, s6, rfl⟩ K hK
    have hl := congrArg List.length (show [] ++ prsF N = _ from e)
    have := prsF_len N4
    simp only [List.nil_append, List.length_append, List.length_map, rngI_len] at hl
    walk_at "go"
    rw [show ((N : Int)).toNat = N by omega]
    refine ⟨by simp [rng, sizeLine]; omega, ?_⟩
    rw [rng_I]
    refine Lc.maps (fun S => ∃ s6, S = [.own s, .val (.int N), .val (.int t), .val (.lst (acc.map chD)), .val (.int i), .free, s6]) DL.D.int (fun b => chD [i, b]) (rngI 0 N) ⟨_, rfl⟩ ?_ ?_
    · rintro b hb S0 ⟨s6, rfl⟩ P hP
      walk_at "go"
      exact hP _ ⟨_, rfl⟩
    rintro S ⟨s6, rfl⟩
    walk_at "go"
    refine ⟨by simp [sizeLine, rngI_len]; omega, ?_⟩
    rw [show acc.map chD ++ (rngI 0 N).map (fun b => chD [i, b]) = (acc ++ (rngI 0 N).map fun b => [i, b]).map chD by rw [List.map_append, List.map_map]; rfl]
    exact hK _ ⟨_, _, rfl⟩
  rintro S ⟨s4, s6, rfl⟩
  rw [List.nil_append, show (rngI 0 N).flatMap (fun a => (rngI 0 N).map fun b => [a, b]) = prsF N from rfl]
  walk_at "go"
  have l16 := prsF_len N4
  refine ⟨by rw [List.length_map]; simp only [sizeLine]; omega, ?_⟩
  refine Lc.inv (fun acc r S => ∃ (C1 C2 C3 : List (List Int)) (s : Ct) (s5 : Slot) (j : Nat), prsF N = C1 ++ C2 ∧ C3.Sublist C1 ∧ acc = C3.map chD ∧ r = C2.map chD ∧ j = C1.length ∧ Src (m + 2 + j) s ∧ S = [.own s, .val (.int N), .val (.int t), .val (.lst ((prsF N).map chD)), s4, s5, s6])
    ⟨[], prsF N, [], s, _, 0, rfl, List.Sublist.refl _, rfl, rfl, rfl, hs, rfl⟩ ?_ ?_
  · rintro acc S ⟨C1, C2, C3, s, s5, j, e, sub, rfl, hr, rfl, hs, rfl⟩
    have : C2 = [] := List.map_eq_nil_iff.mp hr.symm
    subst this
    rw [List.append_nil] at e
    rw [← e] at sub hs
    walk_at "go"
    exact k N C3 s (by omega) (by omega) (fun c hc => prsF_ok c (sub.subset hc)) (prsF_nd.sublist sub) (by have := sub.length_le; omega) (hs.mono (by omega))
  · rintro acc d r S ⟨C1, C2, C3, s, s5, j, e, sub, rfl, hr, rfl, hs, rfl⟩
    rcases C2 with _ | ⟨c, C2⟩
    · cases hr
    obtain ⟨rfl, rfl⟩ := List.cons.inj hr
    have hl := congrArg List.length e
    rw [List.length_append, List.length_cons] at hl
    walk_at "go"
    refine draw hs t (by omega) (by omega) (by omega) fun v s v0 v1 hs => ?_
    walk_at "go"
    refine ⟨fun _ => ?_, fun _ => ?_⟩
    · walk_at "go"
      exact ⟨C1 ++ [c], C2, C3 ++ [c], s, _, C1.length + 1, by simp [e], List.Sublist.append sub (List.Sublist.refl _), by simp, rfl, by simp, hs, rfl⟩
    · exact ⟨C1 ++ [c], C2, C3, s, _, C1.length + 1, by simp [e], sub.trans (List.sublist_append_left ..), rfl, rfl, by simp, hs, rfl⟩
theorem whole_int {i : Int} {R : Rs → Prop} (k : R (.val (.bl true))) : phi_is_whole [.int i] R := by
  refine ⟨rfl, ?_⟩
  walk_at "go"
  exact k
theorem note2_wp {x n : Int} (h0 : 0 ≤ x) (h1 : x < n) {R : Rs → Prop} (k : R (.val (.bl true))) : phi_is_note_2 [.int x, .int n] R := by
  refine ⟨rfl, ?_⟩
  walk_at "go"
  refine whole_int ?_
  walk_at "go"
  rw [decide_eq_true h1]
  exact k
theorem id_reps : ∀ n : Nat, (List.replicate n true).all id = true
  | 0 => rfl
  | n + 1 => by rw [List.replicate_succ, List.all_cons, id_reps n]; rfl
theorem chord_wp {n v : Int} {c : List Int} (h : Chd n v c) (hv : v ≤ 4) {R : Rs → Prop} (k : R (.val (.bl true))) : phi_is_chord [chD c, .int n, .int v] R := by
  have hl := h.len
  refine ⟨rfl, ?_⟩
  walk_at "go"
  refine ⟨fun _ => ?_, fun w => ?_⟩
  rotate_left
  · simp only [decide_eq_true_eq, decide_eq_false_iff_not, deq_int, deq_self, deq_non_int, deq_int_non, Bool.not_eq_true', Bool.not_eq_false', Bool.not_true, Bool.not_false, DL.isNon, reduceCtorEq, Int.not_lt, Int.not_le, Bool.true_eq_false, Bool.false_eq_true, List.length_map] at w
    exact absurd hl w
  walk_at "go"
  refine ⟨by rw [List.length_map]; simp [sizeLine]; omega, ?_⟩
  refine Lc.maps (fun S => ∃ s3, S = [.val (chD c), .val (.int n), .val (.int v), s3]) DL.D.int (fun _ => .bl true) c ⟨_, rfl⟩ ?_ ?_
  · rintro x hx S0 ⟨s3, rfl⟩ P hP
    walk_at "go"
    refine note2_wp (h.ok x hx).1 (h.ok x hx).2 ?_
    walk_at "go"
    exact hP _ ⟨_, rfl⟩
  rintro S ⟨s3, rfl⟩
  have e : c.map (fun _ => DL.D.bl true) = (List.replicate c.length true).map DL.D.bl := by simp [List.map_const']
  rw [e]
  walk_at "go"
  refine onBls_map ?_
  rw [id_reps]
  exact k
theorem chords_wp {n v : Int} {C : List (List Int)} (h : ∀ c ∈ C, Chd n v c) (hv : v ≤ 4) (nd : C.Nodup) (hl : C.length < 1000) {R : Rs → Prop} (k : R (.val .non)) : phi_check_chords [.lst (C.map chD), .int n, .int v] R := by
  refine ⟨rfl, ?_⟩
  walk_at "go"
  refine For.inv (fun r S => ∃ (i : Nat) (C1 C2 : List (List Int)) (s4 s5 : Slot), C = C1 ++ C2 ∧ r = numL i (C2.map chD) ∧ S = [.val (.lst (C.map chD)), .val (.int n), .val (.int v), .own (.dT (C1.map chP)), s4, s5]) ⟨0, [], C, _, _, rfl, rfl, rfl⟩ ?_ ?_
  · rintro S ⟨i, C1, C2, s4, s5, _, _, rfl⟩
    exact k
  · rintro d r S ⟨i, C1, C2, s4, s5, e, hr, rfl⟩
    rcases C2 with _ | ⟨c, C2⟩
    · cases hr
    obtain ⟨rfl, rfl⟩ := List.cons.inj (show d :: r = DL.D.tup [.int i, chD c] :: numL (i + 1) (C2.map chD) from hr)
    have hc : c ∈ C := by simp [e]
    have nc : c ∉ C1 := fun w => by
      rw [e] at nd
      exact (List.nodup_append.mp nd).2.2 c w c (List.mem_cons_self ..) rfl
    have l1 : C1.length < 1000 := by rw [e] at hl; simp at hl; omega
    walk_at "go"
    refine chord_wp (h c hc) hv ?_
    walk_at "go"
    refine onTK_ints ?_
    rw [look_chP, decide_eq_false nc]
    walk_at "go"
    refine onTK_ints ⟨by rw [List.length_map]; simp [sizeLine]; omega, ?_⟩
    rw [show List.map Sum.inl c = chK c from rfl, put_chP nc]
    walk_at "go"
    exact ⟨i + 1, C1 ++ [c], C2, _, _, by simp [e], rfl, rfl⟩
abbrev tabD (n v : Int) (C : List (List Int)) : D := .ins 2 [(8, .int n), (9, .int v), (10, .dT (C.map chP))]
def leC (c e : List Int) : Prop := lexL e c = false
theorem chD_inj : ∀ {c e : List Int}, chD c = chD e → c = e := fun {c e} h => by
  have h2 : c.map DL.D.int = e.map DL.D.int := DL.D.tup.inj h
  exact List.map_inj_right (fun a b e => DL.D.int.inj e) |>.mp h2
theorem perm_map {α β : Type} {f : α → β} : ∀ {l' : List β} {l : List α}, l'.Perm (l.map f) → ∃ m : List α, l' = m.map f ∧ m.Perm l := fun {l' l} h => by
  generalize hk : l.map f = k at h
  induction h generalizing l with
  | nil => exact ⟨[], rfl, by rw [List.map_eq_nil_iff.mp hk]⟩
  | cons x h ih =>
    rcases l with _ | ⟨y, l⟩
    · cases hk
    obtain ⟨rfl, rfl⟩ := List.cons.inj hk
    obtain ⟨m, rfl, p⟩ := ih rfl
    exact ⟨y :: m, rfl, p.cons y⟩
  | swap x y r =>
    rcases l with _ | ⟨a, _ | ⟨b, l⟩⟩
    · cases hk
    · cases hk
    simp only [List.map_cons] at hk
    obtain ⟨rfl, h2⟩ := List.cons.inj hk
    obtain ⟨rfl, rfl⟩ := List.cons.inj h2
    exact ⟨b :: a :: l, rfl, List.Perm.swap ..⟩
  | trans h1 h2 ih1 ih2 =>
    obtain ⟨m, rfl, p⟩ := ih2 hk
    obtain ⟨m', rfl, p'⟩ := ih1 rfl
    exact ⟨m', rfl, p'.trans p⟩
theorem table_wp {n v : Int} {C : List (List Int)} (hn : 1 ≤ n ∧ n ≤ 4) (hv : 2 ≤ v ∧ v ≤ 4) (h : ∀ c ∈ C, Chd n v c) (nd : C.Nodup) (hl : C.length < 1000) {R : List (Nat × DL.D) → Prop}
    (k : ∀ C' : List (List Int), C'.Perm C → C'.Pairwise leC → R [(8, .int n), (9, .int v), (10, .dT (C'.map chP))]) : phi_Table__init_ [.int n, .int v, .lst (C.map chD)] R := by
  refine ⟨rfl, ?_⟩
  walk_at "go"
  refine whole_int ?_
  walk_at "go"
  refine whole_int ?_
  walk_at "go"
  refine chords_wp h hv.2 nd hl ?_
  walk_at "go"
  refine ⟨fun d hd => ?_, fun l' hp hs => ?_⟩
  · obtain ⟨c, hc, rfl⟩ := List.mem_map.mp hd
    rcases c with _ | ⟨x, c⟩
    · have := (h _ hc).len
      simp at this; omega
    · exact ⟨x, c, rfl⟩
  obtain ⟨C', rfl, hq⟩ := perm_map hp
  clear hp
  have hp := hq
  have hs' : C'.Pairwise leC := (List.pairwise_map.mp hs).imp fun {a b} w => w a b rfl rfl
  have nd' : C'.Nodup := hp.nodup_iff.mpr nd
  have hl' : C'.length < 1000 := by rw [hp.length_eq]; exact hl
  have h' : ∀ c ∈ C', Chd n v c := fun c hc => h c (hp.mem_iff.mp hc)
  refine ⟨fun c r S => ∃ (C1 C2 : List (List Int)) (s4 : Slot), C' = C1 ++ C2 ∧ r = C2.map chD ∧ c = .dT (C1.map chP) ∧ S = [.slf 2 [(8, .int n), (9, .int v)], .val (.int n), .val (.int v), .val (.lst (C.map chD)), s4], ?_, ?_, ?_⟩
  · exact ⟨[], C', _, rfl, rfl, rfl, rfl⟩
  · rintro c S ⟨C1, C2, s4, e, hr, rfl, rfl⟩
    have : C2 = [] := List.map_eq_nil_iff.mp hr.symm
    subst this
    rw [List.append_nil] at e
    subst e
    walk_at "go"
    exact k _ hp hs'
  · rintro c d r S ⟨C1, C2, s4, e, hr, rfl, rfl⟩
    rcases C2 with _ | ⟨c, C2⟩
    · cases hr
    obtain ⟨rfl, rfl⟩ := List.cons.inj hr
    have nc : c ∉ C1 := fun w => by
      rw [e] at nd'
      exact (List.nodup_append.mp nd').2.2 c w c (List.mem_cons_self ..) rfl
    walk_at "go"
    refine onTK_ints (l := c) ?_
    refine ⟨by rw [List.length_map]; rw [e] at hl'; simp at hl'; simp [sizeLine]; omega, ?_⟩
    rw [show List.map Sum.inl c = chK c from rfl, put_chP nc]
    exact ⟨C1 ++ [c], C2, _, by simp [e], rfl, rfl, rfl⟩
theorem tvoices_wp {n v : Int} {C : List (List Int)} {R : Rs → Prop} (k : R (.val (.int v))) : phi_Table_voices [tabD n v C] R := by
  refine ⟨rfl, ?_⟩
  walk_at "go"
  exact k
theorem chkv_wp {n : Int} {C : List (List Int)} {R : Rs → Prop} (k : R (.val .non)) : phi_check_voices [tabD n 2 C] R := by
  refine ⟨rfl, ?_⟩
  walk_at "go"
  refine tvoices_wp ?_
  walk_at "go"
  exact k
theorem allowed_wp {n v : Int} {C : List (List Int)} {R : Rs → Prop} (k : R (.val (.lst (C.map chD)))) : phi_Table_allowed [tabD n v C] R := by
  refine ⟨rfl, ?_⟩
  walk_at "go"
  have e : (C.map chP).map (fun p => keyT p.1) = C.map chD := by
    rw [List.map_map]
    refine List.map_congr_left fun c _ => ?_
    show DL.D.tup ((c.map Sum.inl).map keyD) = _
    rw [List.map_map]; rfl
  show R (.val (.lst _))
  rw [e]
  exact k
def twos (n : Nat) : List (List Int) := (rngI 0 n).flatMap fun a => (rngI 0 n).map fun b => [a, b]
def fours (n : Nat) : List (List Int) := (twos n).flatMap fun x => (twos n).map fun y => x ++ y
theorem twos_mem {n : Nat} {N : List Int} : N ∈ twos n ↔ ∃ a b : Int, N = [a, b] ∧ 0 ≤ a ∧ a < n ∧ 0 ≤ b ∧ b < n := by
  constructor
  · intro h
    obtain ⟨a, ha, h⟩ := List.mem_flatMap.mp h
    obtain ⟨b, hb, rfl⟩ := List.mem_map.mp h
    have := rngI_mem.mp ha
    have := rngI_mem.mp hb
    exact ⟨a, b, rfl, by omega, by omega, by omega, by omega⟩
  · rintro ⟨a, b, rfl, h1, h2, h3, h4⟩
    exact List.mem_flatMap.mpr ⟨a, rngI_mem.mpr (by omega), List.mem_map.mpr ⟨b, rngI_mem.mpr (by omega), rfl⟩⟩
theorem fours_mem {n : Nat} {N : List Int} : N ∈ fours n ↔ ∃ a b c d : Int, N = [a, b, c, d] ∧ 0 ≤ a ∧ a < n ∧ 0 ≤ b ∧ b < n ∧ 0 ≤ c ∧ c < n ∧ 0 ≤ d ∧ d < n := by
  constructor
  · intro h
    obtain ⟨x, hx, h⟩ := List.mem_flatMap.mp h
    obtain ⟨y, hy, rfl⟩ := List.mem_map.mp h
    obtain ⟨a, b, rfl, h1, h2, h3, h4⟩ := twos_mem.mp hx
    obtain ⟨c, d, rfl, h5, h6, h7, h8⟩ := twos_mem.mp hy
    exact ⟨a, b, c, d, rfl, h1, h2, h3, h4, h5, h6, h7, h8⟩
  · rintro ⟨a, b, c, d, rfl, h1, h2, h3, h4, h5, h6, h7, h8⟩
    exact List.mem_flatMap.mpr ⟨[a, b], twos_mem.mpr ⟨a, b, rfl, h1, h2, h3, h4⟩, List.mem_map.mpr ⟨[c, d], twos_mem.mpr ⟨c, d, rfl, h5, h6, h7, h8⟩, rfl⟩⟩
theorem flat_lenL {α β : Type} {f : α → List β} {m : Nat} : ∀ {l : List α}, (∀ i ∈ l, (f i).length ≤ m) → (l.flatMap f).length ≤ l.length * m
  | [], _ => by simp
  | a :: l, h => by
    have := flat_lenL (m := m) (l := l) fun i hi => h i (List.mem_cons_of_mem _ hi)
    have := h a (List.mem_cons_self ..)
    rw [List.flatMap_cons, List.length_append, List.length_cons, Nat.add_mul]
    omega
theorem twos_len {n : Nat} (h : n ≤ 8) : (twos n).length ≤ 64 := by
  have := flat_lenL (f := fun a => (rngI 0 n).map fun b => [a, b]) (m := 8) (l := rngI 0 n) fun i _ => by rw [List.length_map, rngI_len]; exact h
  rw [rngI_len] at this
  unfold twos
  omega
theorem fours_len {n : Nat} (h : n ≤ 8) : (fours n).length ≤ 4096 := by
  have t := twos_len h
  have := flat_lenL (f := fun x : List Int => (twos n).map fun y => x ++ y) (m := 64) (l := twos n) fun i _ => by rw [List.length_map]; exact t
  unfold fours
  omega
theorem flat_map {α β γ : Type} {f : α → List β} {h : β → γ} : ∀ {l : List α}, l.flatMap (fun x => (f x).map h) = (l.flatMap f).map h
  | [] => rfl
  | a :: l => by rw [List.flatMap_cons, List.flatMap_cons, List.map_append, flat_map]
theorem twos_ch {n : Nat} : (rngI 0 n).flatMap (fun a => (rngI 0 n).map fun b => chD [a, b]) = (twos n).map chD := by
  unfold twos
  rw [← flat_map]
  congr 1
  funext a
  rw [List.map_map]; rfl
theorem fours_ch {n : Nat} : (twos n).flatMap (fun x => (twos n).map fun y => chD (x ++ y)) = (fours n).map chD := by
  unfold fours
  rw [← flat_map]
  congr 1
  funext a
  rw [List.map_map]; rfl
theorem fours_wp {n : Nat} (hn : n ≤ 8) {R : Rs → Prop} (k : R (.val (.lst ((fours n).map chD)))) : phi_all_fours [.int n] R := by
  have l2 := twos_len hn
  have l4 := fours_len hn
  refine ⟨rfl, ?_⟩
  walk_at "go"
  rw [show ((n : Nat) : Int).toNat = n by omega, rng_I]
  refine Tn.gath (fun S => ∃ s2 s3, S = [.val (.int n), .free, s2, s3, .free, .free]) DL.D.int (fun a => (rngI 0 n).map fun b => chD [a, b]) (rngI 0 n) [] ⟨_, _, rfl⟩ ?_ ?_
  · rintro a ha acc rest e S0 ⟨s2, s3, rfl⟩ N hN
    have hl := congrArg List.length e
    rw [List.nil_append, twos_ch, List.length_map, List.length_append, List.length_append] at hl
    walk_at "go"
    rw [show ((n : Nat) : Int).toNat = n by omega, rng_I]
    refine Tn.gath (fun S => ∃ s3, S = [.val (.int n), .free, .val (.int a), s3, .free, .free]) DL.D.int (fun b => [chD [a, b]]) (rngI 0 n) acc ⟨_, rfl⟩ ?_ ?_
    · rintro b hb acc2 rest2 e2 S0 ⟨s3, rfl⟩ N hN
      have hl2 := congrArg List.length e2
      rw [flat_one, List.length_append, List.length_append, List.length_append, ← List.length_append] at hl2
      simp only [List.length_append, List.length_map, List.length_cons, List.length_nil] at hl hl2
      walk_at "go"
      refine ⟨by simp only [sizeLine]; omega, ?_⟩
      exact hN _ ⟨_, rfl⟩
    · rintro S ⟨s3, rfl⟩
      rw [flat_one]
      exact hN _ ⟨_, _, rfl⟩
  · rintro S ⟨s2, s3, rfl⟩
    rw [List.nil_append, twos_ch]
    walk_at "go"
    refine Tn.gath (fun S => ∃ s4 s5, S = [.val (.int n), .val (.lst ((twos n).map chD)), s2, s3, s4, s5]) chD (fun x => (twos n).map fun y => chD (x ++ y)) (twos n) [] ⟨_, _, rfl⟩ ?_ ?_
    · rintro x hx acc rest e S0 ⟨s4, s5, rfl⟩ N hN
      have hl := congrArg List.length e
      rw [List.nil_append, fours_ch, List.length_map, List.length_append, List.length_append] at hl
      obtain ⟨a, b, rfl, _⟩ := twos_mem.mp hx
      walk_at "go"
      refine Tn.gath (fun S => ∃ s5, S = [.val (.int n), .val (.lst ((twos n).map chD)), s2, s3, .val (chD [a, b]), s5]) chD (fun y => [chD ([a, b] ++ y)]) (twos n) acc ⟨_, rfl⟩ ?_ ?_
      · rintro y hy acc2 rest2 e2 S0 ⟨s5, rfl⟩ N hN
        have hl2 := congrArg List.length e2
        rw [flat_one] at hl2
        simp only [List.length_append, List.length_map, List.length_cons, List.length_nil] at hl hl2
        obtain ⟨c, d, rfl, _⟩ := twos_mem.mp hy
        walk_at "go"
        refine ⟨by simp only [sizeLine]; omega, ?_⟩
        exact hN _ ⟨_, rfl⟩
      · rintro S ⟨s5, rfl⟩
        rw [flat_one]
        exact hN _ ⟨_, _, rfl⟩
    · rintro S ⟨s4, s5, rfl⟩
      rw [List.nil_append, fours_ch]
      exact k
theorem all_dec {α : Type} {p : α → Prop} [∀ x, Decidable (p x)] {l : List α} : (l.map fun x => decide (p x)).all id = true ↔ ∀ x ∈ l, p x := by
  rw [List.all_eq_true]
  constructor
  · intro h x hx
    exact of_decide_eq_true (h _ (List.mem_map.mpr ⟨x, hx, rfl⟩))
  · rintro h b hb
    obtain ⟨x, hx, rfl⟩ := List.mem_map.mp hb
    exact decide_eq_true (h x hx)
theorem rfit_wp {A : List (List Int)} {T : List Int} {a b c d : Int} (h0 : 0 < T.length) (hT : T.length ≤ 8) (ha : 0 ≤ a ∧ a ≤ 100) (hb : 0 ≤ b ∧ b ≤ 100) (hc : 0 ≤ c ∧ c ≤ 100) (hd : 0 ≤ d ∧ d ≤ 100) {R : Rs → Prop}
    (k : R (.val (.bl (decide (FvN A T [a, b, c, d]))))) : phi_rests_fit [.lst (A.map chD), .lst (T.map .int), chD [a, b, c, d]] R := by
  have hl : (T.map DL.D.int).length = T.length := List.length_map ..
  refine ⟨rfl, ?_⟩
  walk_at "go"
  rw [hl, show ((T.length : Nat) : Int).toNat = T.length by omega]
  refine ⟨by simp [rng, sizeLine]; omega, ?_⟩
  rw [rng_I]
  refine Lc.maps (fun S => ∃ s8, S = [.val (.lst (A.map chD)), .val (.lst (T.map .int)), .val (chD [a, b, c, d]), .val (.int T.length), .val (.int a), .val (.int b), .val (.int c), .val (.int d), s8]) DL.D.int
    (fun t => .bl (decide ([nt T ((a * t + b) % T.length), nt T ((c * t + d) % T.length)] ∈ A))) (rngI 0 T.length) ⟨_, rfl⟩ ?_ ?_
  · rintro t ht S0 ⟨s8, rfl⟩ P hP
    have ⟨t0, t1⟩ := rngI_mem.mp ht
    have bt : Bd 10 t := ⟨by omega⟩
    have ba : Bd 10 a := ⟨by omega⟩
    have bc : Bd 10 c := ⟨by omega⟩
    have e1 := Int.emod_nonneg (a * t + b) (show (T.length : Int) ≠ 0 by omega)
    have e2 := Int.emod_lt_of_pos (a * t + b) (show (0 : Int) < T.length by omega)
    have e3 := Int.emod_nonneg (c * t + d) (show (T.length : Int) ≠ 0 by omega)
    have e4 := Int.emod_lt_of_pos (c * t + d) (show (0 : Int) < T.length by omega)
    walk_at "go"
    rw [atI_nt e1 e2]
    walk_at "go"
    rw [atI_nt e3 e4]
    walk_at "go"
    refine ⟨chD_ok (c := [_, _]), chs_ok, ?_⟩
    rw [show DL.D.tup [.int (nt T ((a * t + b) % T.length)), .int (nt T ((c * t + d) % T.length))] = chD [nt T ((a * t + b) % T.length), nt T ((c * t + d) % T.length)] from rfl, memD_ch]
    exact hP _ ⟨_, rfl⟩
  rintro S ⟨s8, rfl⟩
  rw [show (rngI 0 T.length).map (fun t => DL.D.bl (decide ([nt T ((a * t + b) % T.length), nt T ((c * t + d) % T.length)] ∈ A))) = ((rngI 0 T.length).map fun t => decide ([nt T ((a * t + b) % T.length), nt T ((c * t + d) % T.length)] ∈ A)).map DL.D.bl by rw [List.map_map]; rfl]
  walk_at "go"
  refine onBls_map ?_
  have e : ((rngI 0 T.length).map fun t => decide ([nt T ((a * t + b) % T.length), nt T ((c * t + d) % T.length)] ∈ A)).all id = decide (FvN A T [a, b, c, d]) := by
    by_cases w : FvN A T [a, b, c, d]
    · rw [decide_eq_true w]
      exact all_dec.mpr fun t ht => w t (rngI_mem.mp ht).1 (by have := (rngI_mem.mp ht).2; omega)
    · rw [decide_eq_false w, Bool.eq_false_iff]
      intro q
      exact w fun t t0 t1 => all_dec.mp q t (rngI_mem.mpr ⟨t0, by omega⟩)
  rw [e]
  exact k
theorem tnotes_wp {n v : Int} {C : List (List Int)} {R : Rs → Prop} (k : R (.val (.int n))) : phi_Table_notes [tabD n v C] R := by
  refine ⟨rfl, ?_⟩
  walk_at "go"
  exact k
theorem note_wp {n v x : Int} {C : List (List Int)} (h0 : 0 ≤ x) (h1 : x < n) {R : Rs → Prop} (k : R (.val (.bl true))) : phi_is_note [tabD n v C, .int x] R := by
  refine ⟨rfl, ?_⟩
  walk_at "go"
  refine whole_int ?_
  walk_at "go"
  refine tnotes_wp ?_
  walk_at "go"
  rw [decide_eq_true h1]
  exact k
/-- all rests by which all rounds fit -/
noncomputable def shared (A : List (List Int)) (p : Nat) (L : List (List Int)) : List (List Int) := (fours p).filter fun N => decide (∀ T ∈ L, FvN A T N)
theorem shared_wp {n : Int} {A : List (List Int)} {p : Nat} {L : List (List Int)} (p0 : 0 < p) (p8 : p ≤ 8) (l0 : 0 < L.length) (l12 : L.length ≤ 12) (hL : ∀ T ∈ L, T.length = p ∧ ∀ x ∈ T, 0 ≤ x ∧ x < n) {R : Rs → Prop} (k : R (.own (.lst ((shared A p L).map chD)))) : phi_rests_shared [tabD n 2 A, .lst (L.map lsD)] R := by
  have hl : (L.map lsD).length = L.length := List.length_map ..
  obtain ⟨T0, m0, at0⟩ : ∃ T0, T0 ∈ L ∧ L2.atI (L.map lsD) 0 = some (lsD T0) := by
    cases L with
    | nil => cases l0
    | cons T L => exact ⟨T, List.mem_cons_self, by simp [L2.atI, L2.ixN]⟩
  have h0 := hL T0 m0
  have hT0 : (T0.map DL.D.int).length = p := by rw [List.length_map]; exact h0.1
  refine ⟨rfl, ?_⟩
  walk_at "go"
  refine chkv_wp ?_
  walk_at "go"
  refine For.inv (fun r S => ∃ (k : Nat) (L2 : List (List Int)) (s3 s4 s5 s6 s7 : Slot), r = numL k (L2.map lsD) ∧ (∀ T ∈ L2, T ∈ L) ∧ S = [.val (tabD n 2 A), .val (.lst ((L).map lsD)), .free, s3, s4, s5, s6, s7])
    ⟨0, _, _, _, _, _, _, rfl, fun _ h => h, rfl⟩ ?_ ?_
  rotate_left
  · rintro d r S ⟨j, L2, s3, s4, s5, s6, s7, hr, sub, rfl⟩
    rcases L2 with _ | ⟨T, L2⟩
    · cases hr
    obtain ⟨rfl, rfl⟩ := List.cons.inj (show d :: r = DL.D.tup [.int j, lsD T] :: numL (j + 1) (L2.map lsD) from hr)
    have hT := hL T (sub T List.mem_cons_self)
    have lT : (T.map DL.D.int).length = p := by rw [List.length_map]; exact hT.1
    walk_at "go"
    rw [at0]
    walk_at "go"
    refine ⟨by rw [List.length_map]; simp only [sizeLine]; omega, ?_⟩
    refine Lc.maps (fun S => ∃ s5 s7, S = [.val (tabD n 2 A), .val (.lst (L.map lsD)), .free, .val (.int j), .val (lsD T), s5, s6, s7]) DL.D.int (fun _ => .bl true) T ⟨_, _, rfl⟩ ?_ ?_
    · rintro x hx S0 ⟨s5, s7, rfl⟩ P hP
      have hx := hT.2 x hx
      walk_at "go"
      refine note_wp hx.1 hx.2 ?_
      walk_at "go"
      exact hP _ ⟨_, _, rfl⟩
    rintro S ⟨s5, s7, rfl⟩
    rw [show T.map (fun _ => DL.D.bl true) = (T.map fun _ => true).map DL.D.bl by rw [List.map_map]; rfl]
    walk_at "go"
    refine onBls_map ?_
    rw [show ((T.map fun _ => true).all id) = true from List.all_eq_true.mpr fun b hb => by obtain ⟨_, _, rfl⟩ := List.mem_map.mp hb; rfl]
    walk_at "go"
    exact ⟨j + 1, L2, _, _, _, _, _, rfl, fun T hT => sub T (List.mem_cons_of_mem _ hT), rfl⟩
  · rintro S ⟨j, L2, s3, s4, s5, s6, s7, hr, sub, rfl⟩
    walk_at "go"
    refine allowed_wp ?_
    walk_at "go"
    rw [at0]
    walk_at "go"
    rw [hT0]
    refine fours_wp p8 ?_
    have l4 := fours_len p8
    walk_at "go"
    refine ⟨by rw [List.length_map]; simp only [sizeLine]; omega, ?_⟩
    refine Lc.sels (fun S => ∃ s4 s6, S = [.val (tabD n 2 A), .val (.lst ((L).map lsD)), .val (.lst (A.map chD)), s3, s4, s5, s6, s7]) chD chD (fun N => decide (∀ T ∈ L, FvN A T N)) (fours p) ⟨_, _, rfl⟩ ?_ ?_
    · rintro N hN S0 ⟨s4, s6, rfl⟩ P P0 hP hP0
      obtain ⟨a, b, c, d, rfl, h1, h2, h3, h4, h5, h6, h7, h8⟩ := fours_mem.mp hN
      walk_at "go"
      refine ⟨by rw [List.length_map]; simp only [sizeLine]; omega, ?_⟩
      refine Lc.maps (fun S => ∃ s4, S = [.val (tabD n 2 A), .val (.lst ((L).map lsD)), .val (.lst (A.map chD)), s3, s4, s5, .val (chD [a, b, c, d]), s7]) lsD (fun T => .bl (decide (FvN A T [a, b, c, d]))) (L) ⟨_, rfl⟩ ?_ ?_
      · rintro T hT S0 ⟨s4, rfl⟩ P hP
        have hT := hL T hT
        walk_at "go"
        refine rfit_wp (by omega) (by omega) (by omega) (by omega) (by omega) (by omega) ?_
        walk_at "go"
        exact hP _ ⟨_, rfl⟩
      rintro S ⟨s4, rfl⟩
      rw [show L.map (fun T => DL.D.bl (decide (FvN A T [a, b, c, d]))) = (L.map fun T => decide (FvN A T [a, b, c, d])).map DL.D.bl by rw [List.map_map]; rfl]
      walk_at "go"
      refine onBls_map ?_
      have e : (L.map fun T => decide (FvN A T [a, b, c, d])).all id = decide (∀ T ∈ L, FvN A T [a, b, c, d]) := by
        by_cases w : ∀ T ∈ L, FvN A T [a, b, c, d]
        · rw [decide_eq_true w]
          exact all_dec.mpr w
        · rw [decide_eq_false w, Bool.eq_false_iff]
          exact fun q => w (all_dec.mp q)
      rw [e]
      walk_at "go"
      exact ⟨fun q => by walk_at "go"; exact hP q _ ⟨_, _, rfl⟩, fun q => hP0 q _ ⟨_, _, rfl⟩⟩
    rintro S ⟨s4, s6, rfl⟩
    walk_at "go"
    exact k
theorem cell_wp {ns : List Int} {i : Int} (h0 : 0 ≤ i) {R : Rs → Prop} (k : ∀ x, R (.val (.int x))) : phi__law_cell_at [.scr ns, .int i] R := by
  refine ⟨rfl, ?_⟩
  walk_at "go"
  refine ⟨fun h => ?_, fun h => ?_⟩
  · simp only [decide_eq_true_eq, decide_eq_false_iff_not, deq_int, deq_self, deq_non_int, deq_int_non, Bool.not_eq_true', Bool.not_eq_false', Bool.not_true, Bool.not_false, DL.isNon, reduceCtorEq, Int.not_lt, Int.not_le, Bool.true_eq_false, Bool.false_eq_true] at h
    walk_at "go"
    obtain ⟨d, e, _⟩ := atI_ok (l := ns) (i := i) (fun _ => True) (fun _ _ => trivial) h0 h
    rw [e]
    exact k _
  · walk_at "go"
    exact k _
theorem notes_wp {n v lo hi : Int} {C : List (List Int)} {T : List Int} (hT : ∀ x ∈ T, 0 ≤ x ∧ x < n) (h0 : lo ≤ T.length) (h1 : T.length ≤ hi) {R : Rs → Prop} (k : R (.val .non)) : phi_check_notes [tabD n v C, .lst (T.map .int), .int lo, .int hi] R := by
  have g0 : lo ≤ ((T.map DL.D.int).length : Nat) := by rw [List.length_map]; exact h0
  have g1 : ((T.map DL.D.int).length : Nat) ≤ hi := by rw [List.length_map]; exact h1
  refine ⟨rfl, ?_⟩
  walk_at "go"
  refine For.inv (fun r S => ∃ (i : Nat) (T1 : List Int) (s4 s5 : Slot), (∀ x ∈ T1, 0 ≤ x ∧ x < n) ∧ r = numL i (T1.map .int) ∧ S = [.val (tabD n v C), .val (.lst (T.map .int)), .val (.int lo), .val (.int hi), s4, s5]) ⟨0, T, _, _, hT, rfl, rfl⟩ ?_ ?_
  · rintro S ⟨i, T1, s4, s5, _, _, rfl⟩
    exact k
  · rintro d r S ⟨i, T1, s4, s5, hT, hr, rfl⟩
    rcases T1 with _ | ⟨c, T1⟩
    · cases hr
    obtain ⟨rfl, rfl⟩ := List.cons.inj (show d :: r = DL.D.tup [.int i, .int c] :: numL (i + 1) (T1.map DL.D.int) from hr)
    have ⟨c0, c1⟩ := hT c (List.mem_cons_self ..)
    walk_at "go"
    refine note_wp c0 c1 ?_
    walk_at "go"
    exact ⟨i + 1, T1, _, _, fun x hx => hT x (List.mem_cons_of_mem _ hx), rfl, rfl⟩
/-- all rests by which a round fits -/
noncomputable def rests (A : List (List Int)) (T : List Int) : List (List Int) := (fours T.length).filter fun N => decide (FvN A T N)
theorem rests_len {A : List (List Int)} {T : List Int} (hT : T.length ≤ 8) : (rests A T).length ≤ 4096 := Nat.le_trans (List.length_filter_le ..) (fours_len hT)
theorem rests_wp {n : Int} {A : List (List Int)} {T : List Int} (h0 : 0 < T.length) (hT : T.length ≤ 8) (hN : ∀ x ∈ T, 0 ≤ x ∧ x < n) {R : Rs → Prop} (k : R (.val (.lst ((rests A T).map chD)))) : phi_rests_of [tabD n 2 A, .lst (T.map .int)] R := by
  have hl : (T.map DL.D.int).length = T.length := List.length_map ..
  refine ⟨rfl, ?_⟩
  walk_at "go"
  refine chkv_wp ?_
  walk_at "go"
  refine notes_wp hN (by omega) (by omega) ?_
  walk_at "go"
  refine allowed_wp ?_
  walk_at "go"
  rw [hl]
  refine fours_wp hT ?_
  have l4 := fours_len hT
  walk_at "go"
  refine ⟨by rw [List.length_map]; simp only [sizeLine]; omega, ?_⟩
  refine Lc.sels (fun S => ∃ s3, S = [.val (tabD n 2 A), .val (.lst (T.map .int)), .val (.lst (A.map chD)), s3]) chD chD (fun N => decide (FvN A T N)) (fours T.length) ⟨_, rfl⟩ ?_ ?_
  · rintro N hN S0 ⟨s3, rfl⟩ P P0 hP hP0
    obtain ⟨a, b, c, d, rfl, h1, h2, h3, h4, h5, h6, h7, h8⟩ := fours_mem.mp hN
    walk_at "go"
    refine rfit_wp h0 hT (by omega) (by omega) (by omega) (by omega) ?_
    walk_at "go"
    exact ⟨fun q => hP q _ ⟨_, rfl⟩, fun q => hP0 q _ ⟨_, rfl⟩⟩
  rintro S ⟨s3, rfl⟩
  exact k
theorem erase_perm {α : Type} : ∀ {l : List α} {j : Nat} (h : j < l.length), (l[j] :: l.eraseIdx j).Perm l
  | _ :: _, 0, _ => List.Perm.refl _
  | a :: l, j + 1, h => (List.Perm.swap ..).trans (.cons a (erase_perm (l := l) (Nat.lt_of_succ_lt_succ h)))
theorem erase_map {α β : Type} {f : α → β} : ∀ {l : List α} {j : Nat}, (l.map f).eraseIdx j = (l.eraseIdx j).map f
  | [], _ => rfl
  | _ :: _, 0 => rfl
  | a :: l, j + 1 => congrArg (f a :: ·) (erase_map (l := l) (j := j))
theorem mixed_wp {m : Nat} {s : Ct} (hs : Src m s) (hm : m < 2 ^ 40) {l : List Int} (hl : l.length ≤ 100) {R : Rs → Ct → Prop}
    (k : ∀ (l' : List Int) s', l'.Perm l → Src (m + l.length) s' → R (.own (.lst (l'.map .int))) s') : phi__law_mixed s [.lst (l.map .int)] R := by
  refine ⟨rfl, ?_⟩
  walk_at "go"
  refine While.inv (fun q S => ∃ (A B : List Int) (s' : Ct), q = A.length ∧ (A ++ B).Perm l ∧ Src (m + B.length) s' ∧ S = [.own s', .val (.lst (l.map .int)), .own (.lst (A.map .int)), .own (.lst (B.map .int))]) l.length ⟨l, [], s, rfl, by simp, hs, rfl⟩ ?_
  rintro q S ⟨A, B, s', rfl, p, hs, rfl⟩
  have lp := p.length_eq
  rw [List.length_append] at lp
  have okA : ∀ d ∈ A.map DL.D.int, eqOk 19 d := fun d hd => by
    obtain ⟨x, _, rfl⟩ := List.mem_map.mp hd
    exact eqOk_int
  rcases A with _ | ⟨a, A⟩
  · walk_at "go"
    refine ⟨fun w => ?_, fun _ => ?_⟩
    · rw [show deq (Ct.lst (([] : List Int).map DL.D.int)).d (Ct.lst []).d = true from deq_iff.mpr rfl] at w
      cases w
    walk_at "go"
    exact k B s' p (by rw [List.length_nil, Nat.zero_add] at lp; rw [← lp]; exact hs)
  · have ne : deq (.lst ((a :: A).map DL.D.int)) (.lst []) = false := deq_ff fun q => by cases q
    walk_at "go"
    refine ⟨fun _ => ?_, fun w => ?_⟩
    rotate_left
    · rw [show deq (Ct.lst ((a :: A).map DL.D.int)).d (Ct.lst []).d = false from ne] at w
      cases w
    walk_at "go"
    rw [List.length_map]
    refine draw hs (((a :: A).length : Nat) : Int) (by simp only [List.length_cons]; omega) (by simp only [List.length_cons] at lp ⊢; omega) (by omega) fun z s z0 z1 hs => ?_
    obtain ⟨j, rfl⟩ : ∃ j : Nat, z = j := ⟨z.toNat, by omega⟩
    have hj : j < (a :: A).length := by omega
    walk_at "go"
    refine ⟨by rw [List.length_map]; simp only [sizeLine]; omega, ?_⟩
    rw [List.length_map, ixN_in (by omega) z1, Int.toNat_natCast]
    show onSome _ (((a :: A).map DL.D.int)[j]?)
    rw [show ((a :: A).map DL.D.int)[j]? = some (.int (a :: A)[j]) by rw [List.getElem?_map, List.getElem?_eq_getElem hj]; rfl]
    walk_at "go"
    refine ⟨by rw [List.length_map]; simp only [sizeLine]; omega, (a :: A).length - 1, by simp only [List.length_cons]; omega, (a :: A).eraseIdx j, B ++ [(a :: A)[j]], s, ?_, ?_, ?_, ?_⟩
    · rw [List.length_eraseIdx_of_lt hj]
    · refine List.Perm.trans ?_ p
      rw [← List.append_assoc]
      refine List.Perm.trans (List.perm_append_comm ..) ?_
      show ((a :: A)[j] :: ((a :: A).eraseIdx j ++ B)).Perm _
      rw [← List.cons_append]
      exact (erase_perm hj).append_right B
    · rw [List.length_append, List.length_singleton, ← Nat.add_assoc]; exact hs
    · rw [List.map_append]
      rw [← erase_map]
      rfl
theorem strOk_app {a b : PySem.Str} (ha : PySem.PyData.strOk a = true) (hb : PySem.PyData.strOk b = true) : PySem.PyData.strOk (a ++ b) = true := by
  unfold PySem.PyData.strOk at *
  show (a.cps ++ b.cps).all _ = true
  rw [Array.all_append, ha, hb]; rfl
theorem chr_lt (c : Char) : c.toNat < 0x110000 := by
  have h : c.val.toNat.isValidChar := c.valid
  show c.val.toNat < _
  rcases h with h | h
  · omega
  · exact h.2
theorem strOk_str (s : String) : PySem.PyData.strOk (s : PySem.Str) = true := by
  unfold PySem.PyData.strOk
  rw [PySem.Str.ofString_eq_toList]
  show Array.all (s.toList.map Char.toNat).toArray _ = true
  rw [List.all_toArray, List.all_eq_true]
  intro x hx
  obtain ⟨c, _, rfl⟩ := List.mem_map.mp hx
  exact decide_eq_true (chr_lt c)
theorem strOk_from : ∀ {ts : List PySem.Str} {k : Nat} {acc : PySem.Str}, PySem.PyData.strOk acc = true → (∀ t ∈ ts, PySem.PyData.strOk t = true) → PySem.PyData.strOk (PySem.textFrom k acc ts) = true
  | [], _, _, h, _ => h
  | t :: ts, k, acc, h, g => by
    unfold PySem.textFrom
    exact strOk_from (ts := ts) (strOk_app (strOk_app h (strOk_str _)) (g t List.mem_cons_self)) fun t ht => g t (List.mem_cons_of_mem _ ht)
theorem strOk_list {ts : List PySem.Str} (h : ∀ t ∈ ts, PySem.PyData.strOk t = true) : PySem.PyData.strOk (PySem.listText ts) = true := strOk_app (strOk_from (strOk_str _) h) (strOk_str _)
theorem shownAll_map : ∀ {l : List PySem.PyData}, PySem.PyData.shownAll l = l.map PySem.PyData.shown
  | [] => rfl
  | x :: l => congrArg (x.shown :: ·) (shownAll_map (l := l))
theorem strOk_ints {T : List Int} : PySem.PyData.strOk (toP (lsD T)).shown = true := by
  show PySem.PyData.strOk (PySem.listText (PySem.PyData.shownAll (toPs (T.map DL.D.int)))) = true
  refine strOk_list fun t ht => ?_
  rw [shownAll_map, toPs_map, List.map_map, List.map_map] at ht
  obtain ⟨x, _, rfl⟩ := List.mem_map.mp ht
  show PySem.PyData.strOk (PySem.PyData.shown (.int x)) = true
  unfold PySem.PyData.shown
  exact strOk_str _
theorem strOk_lists {Q : List (List Int)} : PySem.PyData.strOk (toP (.lst (Q.map lsD))).shown = true := by
  show PySem.PyData.strOk (PySem.listText (PySem.PyData.shownAll (toPs (Q.map lsD)))) = true
  refine strOk_list fun t ht => ?_
  rw [shownAll_map, toPs_map, List.map_map, List.map_map] at ht
  obtain ⟨T, _, rfl⟩ := List.mem_map.mp ht
  exact strOk_ints
theorem showable_all : ∀ {l : List PySem.PyData}, (∀ d ∈ l, d.showable = true) → PySem.PyData.showableAll l = true
  | [], _ => rfl
  | d :: l, h => by
    show (d.showable && PySem.PyData.showableAll l) = true
    rw [h d List.mem_cons_self, showable_all fun d hd => h d (List.mem_cons_of_mem _ hd)]; rfl
theorem leaves_all {B : Nat} : ∀ {l : List PySem.PyData}, (∀ d ∈ l, d.leavesShort B = true) → PySem.PyData.leavesShortAll B l = true
  | [], _ => rfl
  | d :: l, h => by
    show (d.leavesShort B && PySem.PyData.leavesShortAll B l) = true
    rw [h d List.mem_cons_self, leaves_all fun d hd => h d (List.mem_cons_of_mem _ hd)]; rfl
theorem bulk_all {B : Nat} : ∀ {l : List PySem.PyData}, (∀ d ∈ l, d.bulk ≤ B) → PySem.PyData.bulkAll l ≤ (B + 1) * l.length
  | [], _ => Nat.le_refl _
  | d :: l, h => by
    show d.bulk + 1 + PySem.PyData.bulkAll l ≤ _
    have a := h d List.mem_cons_self
    have b := bulk_all (B := B) (l := l) fun d hd => h d (List.mem_cons_of_mem _ hd)
    rw [List.length_cons, Nat.mul_succ]
    omega
theorem short_int {i : Int} (h0 : 0 ≤ i) (h1 : i < 10) : (PySem.PyData.int i).showable = true ∧ (PySem.PyData.int i).leavesShort 8 = true := by
  have : i = 0 ∨ i = 1 ∨ i = 2 ∨ i = 3 ∨ i = 4 ∨ i = 5 ∨ i = 6 ∨ i = 7 ∨ i = 8 ∨ i = 9 := by omega
  rcases this with rfl | rfl | rfl | rfl | rfl | rfl | rfl | rfl | rfl | rfl <;> exact ⟨by decide +kernel, by decide +kernel⟩
theorem rpr_ok {Q : List (List Int)} (hQ : Q.length ≤ 1000) (h : ∀ T ∈ Q, T.length ≤ 100 ∧ ∀ x ∈ T, 0 ≤ x ∧ x < 10) : eqOk 20 (.lst (Q.map lsD)) ∧ (toP (.lst (Q.map lsD))).showable = true ∧ (toP (.lst (Q.map lsD))).shown.length ≤ sizeLine := by
  refine ⟨eqOk_lst fun d hd => ?_, ?_, PySem.PyData.shown_fits_bulk (B := 8) (by decide) (by decide) ?_ ?_⟩
  · obtain ⟨T, _, rfl⟩ := List.mem_map.mp hd
    exact eqOk_ints
  · show PySem.PyData.showableAll (toPs (Q.map lsD)) = true
    rw [toPs_map, List.map_map]
    refine showable_all fun d hd => ?_
    obtain ⟨T, hT, rfl⟩ := List.mem_map.mp hd
    show PySem.PyData.showableAll (toPs (T.map DL.D.int)) = true
    rw [toPs_map, List.map_map]
    refine showable_all fun d hd => ?_
    obtain ⟨x, hx, rfl⟩ := List.mem_map.mp hd
    have := (h T hT).2 x hx
    exact (short_int this.1 this.2).1
  · show PySem.PyData.leavesShortAll 8 (toPs (Q.map lsD)) = true
    rw [toPs_map, List.map_map]
    refine leaves_all fun d hd => ?_
    obtain ⟨T, hT, rfl⟩ := List.mem_map.mp hd
    show PySem.PyData.leavesShortAll 8 (toPs (T.map DL.D.int)) = true
    rw [toPs_map, List.map_map]
    refine leaves_all fun d hd => ?_
    obtain ⟨x, hx, rfl⟩ := List.mem_map.mp hd
    have := (h T hT).2 x hx
    exact (short_int this.1 this.2).2
  · show PySem.PyData.bulkAll (toPs (Q.map lsD)) ≤ _
    rw [toPs_map, List.map_map]
    have := bulk_all (B := 100) (l := Q.map (toP ∘ lsD)) fun d hd => by
      obtain ⟨T, hT, rfl⟩ := List.mem_map.mp hd
      show PySem.PyData.bulkAll (toPs (T.map DL.D.int)) ≤ _
      rw [toPs_map, List.map_map]
      have a := bulk_all (B := 0) (l := T.map (toP ∘ DL.D.int)) fun d hd => by
        obtain ⟨x, hx, rfl⟩ := List.mem_map.mp hd
        exact Nat.le_refl _
      rw [List.length_map] at a
      have := (h T hT).1
      omega
    rw [List.length_map] at this
    have c : (2 : Nat) ^ 20 = 1048576 := by decide
    omega
-- USES: rpr
theorem cut_upto78 {α : Type} {l : List α} {k : Nat} (h : k ≤ l.length) : cutD l none (some (k : Int)) = l.take k := by
  unfold cutD
  rw [HT.sIx_nat, Nat.min_eq_left h]
  simp [HT.sIx]
theorem src_noL {m : Nat} {s : Ct} (h : Src m s) : noLs (.own s) = true := by
  obtain ⟨a, b, c, rfl, _⟩ := h
  rfl
theorem tab_noL {n v : Int} {A : List (List Int)} : noLs (.val (tabD n v A)) = true := by
  have : ∀ {A : List (List Int)}, noLdT (A.map chP) = true := fun {A} => by
    induction A with
    | nil => rfl
    | cons c A ih => exact ih
  show (true && (true && (noLdT (A.map chP) && true))) = true
  rw [this]; rfl
theorem shared_eq {A : List (List Int)} {p : Nat} {T0 : List Int} {Q : List (List Int)} (h0 : T0 ∈ Q) (hQ : ∀ T ∈ Q, T.length = p) : (rests A T0).filter (fun N => decide (∀ T ∈ Q, N ∈ rests A T)) = shared A p Q := by
  unfold rests shared
  rw [List.filter_filter, hQ T0 h0]
  refine List.filter_congr fun N hN => ?_
  have e : ∀ T ∈ Q, (N ∈ (fours T.length).filter (fun N => decide (FvN A T N)) ↔ FvN A T N) := fun T hT => by
    rw [List.mem_filter, hQ T hT, decide_eq_true_eq]
    exact ⟨fun h => h.2, fun h => ⟨hN, h⟩⟩
  by_cases w : ∀ T ∈ Q, FvN A T N
  · rw [decide_eq_true w, decide_eq_true (fun T hT => (e T hT).mpr (w T hT)), decide_eq_true (w T0 h0)]; rfl
  · rw [decide_eq_false w, decide_eq_false (fun h => w fun T hT => (e T hT).mp (h T hT))]; rfl
theorem shared_len {A : List (List Int)} {p : Nat} {Q : List (List Int)} (hp : p ≤ 8) : (shared A p Q).length ≤ 4096 := Nat.le_trans (List.length_filter_le ..) (fours_len hp)
theorem shared_same {A : List (List Int)} {p : Nat} {Q Q' : List (List Int)} (h : ∀ T, T ∈ Q ↔ T ∈ Q') : shared A p Q = shared A p Q' := by
  unfold shared
  simp only [h]
theorem mixedL_wp {α : Type} {rd : α → D} {m : Nat} {s : Ct} (hs : Src m s) (hm : m < 2 ^ 40) {l : List α} (hl : l.length ≤ 100) (ok : ∀ x, eqOk 19 (rd x)) {R : Rs → Ct → Prop}
    (k : ∀ (l' : List α) s', l'.Perm l → Src (m + l.length) s' → R (.own (.lst (l'.map rd))) s') : phi__law_mixed s [.lst (l.map rd)] R := by
  refine ⟨rfl, ?_⟩
  walk_at "go"
  refine While.inv (fun q S => ∃ (A B : List α) (s' : Ct), q = A.length ∧ (A ++ B).Perm l ∧ Src (m + B.length) s' ∧ S = [.own s', .val (.lst (l.map rd)), .own (.lst (A.map rd)), .own (.lst (B.map rd))]) l.length ⟨l, [], s, rfl, by simp, hs, rfl⟩ ?_
  rintro q S ⟨A, B, s', rfl, p, hs, rfl⟩
  have lp := p.length_eq
  rw [List.length_append] at lp
  have okA : ∀ d ∈ A.map rd, eqOk 19 d := fun d hd => by
    obtain ⟨x, _, rfl⟩ := List.mem_map.mp hd
    exact ok x
  rcases A with _ | ⟨a, A⟩
  · walk_at "go"
    refine ⟨fun w => ?_, fun _ => ?_⟩
    · rw [show deq (Ct.lst (([] : List α).map rd)).d (Ct.lst []).d = true from deq_iff.mpr rfl] at w
      cases w
    walk_at "go"
    exact k B s' p (by rw [List.length_nil, Nat.zero_add] at lp; rw [← lp]; exact hs)
  · have ne : deq (.lst ((a :: A).map rd)) (.lst []) = false := deq_ff fun q => by cases q
    walk_at "go"
    refine ⟨fun _ => ?_, fun w => ?_⟩
    rotate_left
    · rw [show deq (Ct.lst ((a :: A).map rd)).d (Ct.lst []).d = false from ne] at w
      cases w
    walk_at "go"
    rw [List.length_map]
    refine draw hs (((a :: A).length : Nat) : Int) (by simp only [List.length_cons]; omega) (by simp only [List.length_cons] at lp ⊢; omega) (by omega) fun z s z0 z1 hs => ?_
    obtain ⟨j, rfl⟩ : ∃ j : Nat, z = j := ⟨z.toNat, by omega⟩
    have hj : j < (a :: A).length := by omega
    walk_at "go"
    refine ⟨by rw [List.length_map]; simp only [sizeLine]; omega, ?_⟩
    rw [List.length_map, ixN_in (by omega) z1, Int.toNat_natCast]
    show onSome _ (((a :: A).map rd)[j]?)
    rw [show ((a :: A).map rd)[j]? = some (rd (a :: A)[j]) by rw [List.getElem?_map, List.getElem?_eq_getElem hj]; rfl]
    walk_at "go"
    refine ⟨by rw [List.length_map]; simp only [sizeLine]; omega, (a :: A).length - 1, by simp only [List.length_cons]; omega, (a :: A).eraseIdx j, B ++ [(a :: A)[j]], s, ?_, ?_, ?_, ?_⟩
    · rw [List.length_eraseIdx_of_lt hj]
    · refine List.Perm.trans ?_ p
      rw [← List.append_assoc]
      refine List.Perm.trans (List.perm_append_comm ..) ?_
      show ((a :: A)[j] :: ((a :: A).eraseIdx j ++ B)).Perm _
      rw [← List.cons_append]
      exact (erase_perm hj).append_right B
    · rw [List.length_append, List.length_singleton, ← Nat.add_assoc]; exact hs
    · rw [List.map_append]
      rw [← erase_map]
      rfl
theorem same_len {o n : List Int} : ∀ {r r' : List (List Int)}, SameOr o n r r' → r'.length = r.length
  | [], [], _ => rfl
  | _ :: r, _ :: r', h => congrArg (· + 1) (same_len (r := r) (r' := r') h.2)
  | [], _ :: _, h => h.elim
  | _ :: _, [], h => h.elim
theorem same_mem {o n : List Int} : ∀ {r r' : List (List Int)}, SameOr o n r r' → ∀ T ∈ r', T ∈ r ∨ T = n
  | [], [], _, T, hT => by cases hT
  | a :: r, b :: r', h, T, hT => by
    rcases List.mem_cons.mp hT with rfl | hT
    · rcases h.1 with q | ⟨_, q⟩
      · exact .inl (by rw [q]; exact List.mem_cons_self)
      · exact .inr q
    · exact (same_mem (r := r) (r' := r') h.2 T hT).imp (List.mem_cons_of_mem _) id
  | [], _ :: _, h, _, _ => h.elim
  | _ :: _, [], h, _, _ => h.elim
/-- what stays between the pieces -/
abbrev st78 (i n : Int) (s : Ct) (A : List (List Int)) (P : Nat) : SS := [.free, .val (.int i), .own s, .val (tabD n 2 A), .val (.int P), .free, .free, .free, .free, .free, .free, .free, .val (.int n), .free, .free, .free, .free, .free, .free]
theorem keep78 {i n : Int} {m : Nat} {s : Ct} (hs : Src m s) {A : List (List Int)} {P : Nat} {z0 z5 z6 z7 z8 z9 z10 z11 z13 z14 z15 z16 z17 z18 : Slot} : KeepS [z0, .val (.int i), .own s, .val (tabD n 2 A), .val (.int P), z5, z6, z7, z8, z9, z10, z11, .val (.int n), z13, z14, z15, z16, z17, z18] (st78 i n s A P) :=
  ⟨.inl rfl, .inr ⟨rfl, rfl⟩, .inr ⟨rfl, src_noL hs⟩, .inr ⟨rfl, tab_noL⟩, .inr ⟨rfl, rfl⟩, .inl rfl, .inl rfl, .inl rfl, .inl rfl, .inl rfl, .inl rfl, .inl rfl, .inr ⟨rfl, rfl⟩, .inl rfl, .inl rfl, .inl rfl, .inl rfl, .inl rfl, .inl rfl, trivial⟩
theorem law_holds (ns : List Int) (hl : ns.length ≤ 63) : phi_law [.scr ns] (fun r => r = .val (.bl true)) := by
  refine ⟨rfl, ?_⟩
  walk_at "go"
  refine cell_wp (by decide) fun x => ?_
  walk_at "go"
  refine ⟨cut_small hl (by walk_at "len"), ?_⟩
  walk_at "go"
  refine For.inv (fun r S => (∀ d ∈ r, ∃ i, d = .int i) ∧ ∃ s0 s1 s2 s3 s4 s5 s6 s7 s8 s9 s10 s11 s12 s13 s14 s15 s16 s17 s18, S = [s0, s1, s2, s3, s4, s5, s6, s7, s8, s9, s10, s11, s12, s13, s14, s15, s16, s17, s18]) ⟨ints_app ints_one ints_map, _, _, _, _, _, _, _, _, _, _, _, _, _, _, _, _, _, _, _, rfl⟩ ?_ ?_
  · rintro S1 ⟨_, s0, s1, s2, s3, s4, s5, s6, s7, s8, s9, s10, s11, s12, s13, s14, s15, s16, s17, s18, rfl⟩
    walk_at "go"
  rintro d r S ⟨hr, s0, s1, s2, s3, s4, s5, s6, s7, s8, s9, s10, s11, s12, s13, s14, s15, s16, s17, s18, rfl⟩
  have hr' := fun d hd => hr d (List.mem_cons_of_mem _ hd)
  obtain ⟨i, rfl⟩ := hr d (List.mem_cons_self ..)
  walk_at "go"
  refine ⟨[.free, .val (.int i), .free, .free, .free, .free, .free, .free, .free, .free, .free, .free, .free, .free, .free, .free, .free, .free, .free], ⟨.inl rfl, .inr ⟨rfl, rfl⟩, .inl rfl, .inl rfl, .inl rfl, .inl rfl, .inl rfl, .inl rfl, .inl rfl, .inl rfl, .inl rfl, .inl rfl, .inl rfl, .inl rfl, .inl rfl, .inl rfl, .inl rfl, .inl rfl, .inl rfl, trivial⟩, ?_⟩
  walk_at "go"
  refine source_wp fun s hs => ?_
  walk_at "go"
  refine pairs_wp hs (by decide) fun n C s n1 n4 hC nd lC hs => ?_
  walk_at "go"
  rw [← List.map_reverse]
  refine table_wp ⟨n1, n4⟩ (by decide) (fun c hc => hC c (List.mem_reverse.mp hc)) ((List.reverse_perm C).nodup_iff.mpr nd) (by rw [List.length_reverse]; omega) fun A hA _ => ?_
  have hA : A.Perm C := hA.trans (List.reverse_perm C)
  walk_at "go"
  refine draw hs 4 (by decide) (by decide) (by decide) fun v s v0 v1 hs => ?_
  walk_at "go"
  obtain ⟨P, hP⟩ : ∃ P : Nat, 1 + v = P := ⟨(1 + v).toNat, by omega⟩
  rw [hP]
  refine one_wp hs 5 11 (by decide) (by decide) (by decide) (by omega) fun q s q0 q1 hs => ?_
  walk_at "go"
  refine draw hs q (by omega) (by omega) (by omega) fun w s w0 w1 hs => ?_
  obtain ⟨M, hM⟩ : ∃ M : Nat, 1 + w = M := ⟨(1 + w).toNat, by omega⟩
  walk_at "go"
  rw [hM, show ((M : Int)).toNat = M by omega]
  have P4 : P ≤ 4 := by omega
  have P0 : 0 < P := by omega
  refine For.inv (fun r' S => ∃ (j : Nat) (L : List (List Int)) (s : Ct) (s6 s17 : Slot), j ≤ M ∧ r' = rng j (M - j) ∧ L.length = j ∧ (∀ T ∈ L, T.length = P ∧ ∀ x ∈ T, 0 ≤ x ∧ x < n) ∧ Src (30 + 4 * j) s ∧ S = [.free, .val (.int i), .own s, .val (tabD n 2 A), .val (.int P), .own (.lst (L.map lsD)), s6, .free, .free, .free, .free, .free, .val (.int n), .val (.lst (C.map chD)), .free, .free, .free, s17, .free])
    ⟨0, [], s, _, _, by omega, rfl, rfl, fun T hT => (by cases hT), hs.mono (by omega), rfl⟩ ?_ ?_
  rotate_left
  · rintro d r' S ⟨j, L, s, s6, s17, hj, hr2, lL, hL, hs, rfl⟩
    rcases Nat.lt_or_ge j M with jv | jv
    rotate_left
    · rw [show M - j = 0 by omega] at hr2; cases hr2
    rw [show M - j = M - (j + 1) + 1 by omega, rng_succ] at hr2
    obtain ⟨rfl, rfl⟩ := List.cons.inj hr2
    walk_at "go"
    rw [show ((P : Int)).toNat = P by omega]
    refine ⟨by simp [rng, sizeLine]; omega, ?_⟩
    refine Lc.inv (fun acc r S => ∃ (l : List Int) (s : Ct) (s17 : Slot), acc = l.map .int ∧ (∀ x ∈ l, 0 ≤ x ∧ x < n) ∧ l.length + r.length = P ∧ (∀ d ∈ r, ∃ i, d = .int i) ∧ Src (30 + 4 * j + l.length) s ∧ S = [.free, .val (.int i), .own s, .val (tabD n 2 A), .val (.int P), .own (.lst (L.map lsD)), .val (.int j), .free, .free, .free, .free, .free, .val (.int n), .val (.lst (C.map chD)), .free, .free, .free, s17, .free])
      ⟨[], s, _, rfl, fun x hx => (by cases hx), by simp [rng], fun d hd => (by obtain ⟨i, e, _⟩ := rng_mem d hd; exact ⟨i, e⟩), hs, rfl⟩ ?_ ?_
    rotate_left
    · rintro acc d r S ⟨l, s, s17, rfl, hl, hlen, hd, hs, rfl⟩
      obtain ⟨j2, rfl⟩ := hd d (List.mem_cons_self ..)
      rw [List.length_cons] at hlen
      walk_at "go"
      refine draw hs n (by omega) (by omega) (by omega) fun w s w0 w1 hs => ?_
      walk_at "go"
      refine ⟨l ++ [w], s, _, by simp, fun x hx => ?_, by simp; omega, fun d hd' => hd d (List.mem_cons_of_mem _ hd'), hs.mono (by simp; omega), rfl⟩
      rcases List.mem_append.mp hx with hx | hx
      · exact hl x hx
      · rw [List.mem_singleton.mp hx]; exact ⟨w0, w1⟩
    rintro acc S ⟨T, s, s17, rfl, hN, hlen, _, hs, rfl⟩
    rw [List.length_nil, Nat.add_zero] at hlen
    walk_at "go"
    refine ⟨by rw [List.length_map]; simp only [sizeLine]; omega, ?_⟩
    walk_at "w"
    refine ⟨j + 1, L ++ [T], s, _, _, by omega, rfl, by simp [lL], fun T' hT' => ?_, hs.mono (by omega), by rw [List.map_append]; rfl⟩
    rcases List.mem_append.mp hT' with h | h
    · exact hL T' h
    · rw [List.mem_singleton.mp h]; exact ⟨hlen, hN⟩
  rintro S ⟨j, L, s, s6, s17, hj, hr2, lL, hL, hs, rfl⟩
  obtain rfl : j = M := by
    refine Classical.byContradiction fun w => ?_
    rw [show M - j = M - (j + 1) + 1 by omega, rng_succ] at hr2
    cases hr2
  walk_at "go"
  refine draw hs 2 (by decide) (by decide) (by omega) fun u s u0 u1 hs => ?_
  walk_at "go"
  obtain ⟨U, rfl⟩ : ∃ U : Nat, u = U := ⟨u.toNat, by omega⟩
  have lU : U ≤ L.length := by omega
  rw [cut_upto78 (by rw [List.length_map]; exact lU), ← List.map_take, ← List.map_append]
  obtain ⟨Q, hQ⟩ : ∃ Q, L ++ L.take U = Q := ⟨_, rfl⟩
  have lQ : 0 < Q.length ∧ Q.length ≤ 12 := by rw [← hQ, List.length_append, List.length_take]; constructor <;> omega
  have oQ : ∀ T ∈ Q, T.length = P ∧ ∀ x ∈ T, 0 ≤ x ∧ x < n := fun T hT => by
    rw [← hQ] at hT
    rcases List.mem_append.mp hT with h | h
    · exact hL T h
    · exact hL T (List.mem_of_mem_take h)
  rw [hQ]
  refine ⟨by simp only [List.length_map, List.length_take, sizeLine]; omega, ?_⟩
  show heldS 5 _ _ _
  refine ⟨Q, st78 i n s A P, .inr rfl, keep78 hs, rfl, ?_⟩
  show qSeg 5 _ _ Q _ _
  obtain ⟨T0, m0, at0⟩ : ∃ T0, T0 ∈ Q ∧ ∀ {β : Type} {f : List Int → β}, L2.atI (Q.map f) 0 = some (f T0) := by
    cases Q with
    | nil => cases lQ.1
    | cons T Q => exact ⟨T, List.mem_cons_self, fun {β f} => by simp [L2.atI, L2.ixN]⟩
  refine ⟨st78 i n s A P, keep78 hs, ?_⟩
  walk_at "go"
  refine ⟨by rw [List.length_map]; simp only [sizeLine]; omega, ?_⟩
  refine Lc.maps (fun S => ∃ s15, S = [.free, .val (.int i), .own s, .val (tabD n 2 A), .val (.int P), .val (.lst (Q.map lsD)), .free, .free, .free, .free, .free, .free, .val (.int n), .free, .free, s15, .free, .free, .free]) lsD (fun T => .lst ((rests A T).map chD)) Q ⟨_, rfl⟩ ?_ ?_
  · rintro T hT S0 ⟨s15, rfl⟩ P' hP'
    have hT := oQ T hT
    walk_at "go"
    refine rests_wp (by omega) (by omega) hT.2 ?_
    walk_at "go"
    exact hP' _ ⟨_, rfl⟩
  rintro S ⟨s15, rfl⟩
  have lT := rests_len (A := A) (T := T0) (by rw [(oQ T0 m0).1]; omega)
  walk_at "go"
  rw [at0]
  walk_at "go"
  refine ⟨by rw [List.length_map]; simp only [sizeLine]; omega, ?_⟩
  refine Lc.sels (fun S => ∃ s16 s18, S = [.free, .val (.int i), .own s, .val (tabD n 2 A), .val (.int P), .val (.lst (Q.map lsD)), .free, .val (.lst (Q.map fun T => .lst ((rests A T).map chD))), .free, .free, .free, .free, .val (.int n), .free, .free, s15, s16, .free, s18]) chD chD (fun N => decide (∀ T ∈ Q, N ∈ rests A T)) (rests A T0) ⟨_, _, rfl⟩ ?_ ?_
  · rintro N hN S0 ⟨s16, s18, rfl⟩ P1 P2 hP1 hP2
    walk_at "go"
    refine ⟨by rw [List.length_map]; simp only [sizeLine]; omega, ?_⟩
    refine Lc.maps (fun S => ∃ s18, S = [.free, .val (.int i), .own s, .val (tabD n 2 A), .val (.int P), .val (.lst (Q.map lsD)), .free, .val (.lst (Q.map fun T => .lst ((rests A T).map chD))), .free, .free, .free, .free, .val (.int n), .free, .free, s15, .val (chD N), .free, s18]) (fun T => .lst ((rests A T).map chD)) (fun T => .bl (decide (N ∈ rests A T))) Q ⟨_, rfl⟩ ?_ ?_
    · rintro T hT S0 ⟨s18, rfl⟩ P' hP'
      walk_at "go"
      refine ⟨chD_ok, chs_ok, ?_⟩
      rw [memD_ch]
      exact hP' _ ⟨_, rfl⟩
    rintro S ⟨s18, rfl⟩
    rw [show Q.map (fun T => DL.D.bl (decide (N ∈ rests A T))) = (Q.map fun T => decide (N ∈ rests A T)).map DL.D.bl by rw [List.map_map]; rfl]
    walk_at "go"
    refine onBls_map ?_
    have e : (Q.map fun T => decide (N ∈ rests A T)).all id = decide (∀ T ∈ Q, N ∈ rests A T) := by
      by_cases w : ∀ T ∈ Q, N ∈ rests A T
      · rw [decide_eq_true w]
        exact all_dec.mpr w
      · rw [decide_eq_false w, Bool.eq_false_iff]
        exact fun q => w (all_dec.mp q)
    rw [e]
    walk_at "go"
    exact ⟨fun q => by walk_at "go"; exact hP1 q _ ⟨_, _, rfl⟩, fun q => hP2 q _ ⟨_, _, rfl⟩⟩
  rintro S ⟨s16, s18, rfl⟩
  rw [shared_eq m0 fun T hT => (oQ T hT).1]
  have lS := shared_len (A := A) (p := P) (Q := Q) (by omega)
  obtain ⟨r1, r2, r3⟩ := rpr_ok (Q := Q) (by omega) fun T hT => ⟨by rw [(oQ T hT).1]; omega, fun x hx => by have := (oQ T hT).2 x hx; omega⟩
  walk_at "go"
  refine shared_wp P0 (by omega) lQ.1 lQ.2 oQ ?_
  walk_at "go"
  have okS : eqOk 20 (.lst ((shared A P Q).map chD)) := eqOk_lst chs_ok
  have okT : eqOk 20 (.str (toP (.lst (Q.map lsD))).shown) := eqOk_str strOk_lists
  refine ⟨eqc_of okS okS, ?_⟩
  rw [show deq (Ct.lst ((shared A P Q).map chD)).d (Ct.lst ((shared A P Q).map chD)).d = true from deq_self]
  walk_at "go"
  refine ⟨by rw [List.length_map]; simp only [sizeLine]; omega, ?_⟩
  walk_at "go"
  refine mixedL_wp (rd := lsD) hs (by omega) (by omega) (fun T => eqOk_lst fun d hd => by obtain ⟨x, _, rfl⟩ := List.mem_map.mp hd; exact eqOk_int) fun Q2 s pQ hs => ?_
  walk_at "go"
  refine shared_wp P0 (by omega) (by rw [pQ.length_eq]; exact lQ.1) (by rw [pQ.length_eq]; exact lQ.2) (fun T hT => oQ T (pQ.mem_iff.mp hT)) ?_
  rw [shared_same (fun T => pQ.mem_iff (a := T))]
  walk_at "go"
  refine For.each 1 _ (fun S => ∃ s11 s14 s16, S = [.free, .val (.int i), .own s, .val (tabD n 2 A), .val (.int P), .val (.lst (Q.map lsD)), .free, .val (.lst (Q.map fun T => .lst ((rests A T).map chD))), .val (.lst ((shared A P Q).map chD)), .val (.str (toP (.lst (Q.map lsD))).shown), .own (.lst ((shared A P Q).map chD ++ [.non])), s11, .val (.int n), .free, s14, s15, s16, .free, s18]) (fun _ => True) ⟨_, _, _, rfl⟩ ?_ ?_
  · rintro c c0 c1 _ S0 ⟨s11, s14, s16, rfl⟩ N hN
    rw [List.length_map] at c1
    obtain ⟨c, rfl⟩ : ∃ c' : Nat, c = c' := ⟨c.toNat, by omega⟩
    have lc : c ≤ Q.length := by omega
    walk_at "go"
    rw [cut_upto78 (by rw [List.length_map]; exact lc), ← List.map_take]
    refine shared_wp P0 (by omega) (by rw [List.length_take]; omega) (by rw [List.length_take]; omega) (fun T hT => oQ T (List.mem_of_mem_take hT)) ?_
    walk_at "go"
    refine ⟨by rw [List.length_map]; simp only [sizeLine]; omega, ?_⟩
    refine Lc.sels (fun S => ∃ s16, S = [.free, .val (.int i), .own s, .val (tabD n 2 A), .val (.int P), .val (.lst (Q.map lsD)), .free, .val (.lst (Q.map fun T => .lst ((rests A T).map chD))), .val (.lst ((shared A P Q).map chD)), .val (.str (toP (.lst (Q.map lsD))).shown), .own (.lst ((shared A P Q).map chD ++ [.non])), .val (.int c), .val (.int n), .free, .val (.lst ((shared A P (Q.take c)).map chD)), s15, s16, .free, s18]) chD chD (fun N => !decide (N ∈ shared A P (Q.take c))) (shared A P Q) ⟨_, rfl⟩ ?_ ?_
    · rintro N hN S0 ⟨s16, rfl⟩ P1 P2 hP1 hP2
      walk_at "go"
      refine ⟨chD_ok, chs_ok, ?_⟩
      rw [memD_ch]
      exact ⟨fun q => by walk_at "go"; exact hP1 q _ ⟨_, rfl⟩, fun q => hP2 q _ ⟨_, rfl⟩⟩
    rintro S ⟨s16, rfl⟩
    have e : (shared A P Q).filter (fun N => !decide (N ∈ shared A P (Q.take c))) = [] := by
      rw [List.filter_eq_nil_iff]
      intro N hN
      have h1 := List.mem_filter.mp hN
      have h2 := of_decide_eq_true h1.2
      have : N ∈ shared A P (Q.take c) := List.mem_filter.mpr ⟨h1.1, decide_eq_true fun T hT => h2 T (List.mem_of_mem_take hT)⟩
      simp [this]
    rw [e, List.map_nil]
    walk_at "go"
    exact hN trivial _ ⟨_, _, _, rfl⟩
  rintro _ S ⟨s11, s14, s16, rfl⟩
  walk_at "go"
  show heldS 5 _ _ _
  refine ⟨Q, st78 i n s A P, .inl rfl, keep78 hs, rfl, ?_⟩
  show qSet00 5 _ _ Q _ _
  obtain ⟨c, rr, rs, eQ⟩ : ∃ c rr rs, Q = (c :: rr) :: rs := by
    cases Q with
    | nil => exact absurd lQ.1 (by simp)
    | cons T Q =>
      have := (oQ T List.mem_cons_self).1
      cases T with
      | nil => rw [List.length_nil] at this; omega
      | cons c rr => exact ⟨c, rr, Q, rfl⟩
  have oc : 0 ≤ c ∧ c < n := (oQ (c :: rr) (by rw [eQ]; exact List.mem_cons_self)).2 c List.mem_cons_self
  have mm0 := Int.emod_nonneg (c + 1) (show n ≠ 0 by omega)
  have mm1 := Int.emod_lt_of_pos (c + 1) (show 0 < n by omega)
  rw [eQ]
  walk_at "go"
  have a0 : L2.atI (((c :: rr) :: rs).map lsD) 0 = some (lsD (c :: rr)) := by simp [L2.atI, L2.ixN]
  have a1 : L2.atI ((c :: rr).map DL.D.int) 0 = some (.int c) := by simp [L2.atI, L2.ixN]
  rw [a0]
  walk_at "go"
  rw [a1]
  walk_at "go"
  refine ⟨c, rr, rs, rfl, fun rs' same => ?_⟩
  obtain ⟨Q3, hQ3⟩ : ∃ Q3, ((c + 1) % n :: rr) :: rs' = Q3 := ⟨_, rfl⟩
  have oN : ((c + 1) % n :: rr).length = P ∧ ∀ x ∈ (c + 1) % n :: rr, 0 ≤ x ∧ x < n := by
    have := oQ (c :: rr) (by rw [eQ]; exact List.mem_cons_self)
    refine ⟨this.1, fun x hx => ?_⟩
    rcases List.mem_cons.mp hx with rfl | hx
    · exact ⟨mm0, mm1⟩
    · exact this.2 x (List.mem_cons_of_mem _ hx)
  have lQ3 : 0 < Q3.length ∧ Q3.length ≤ 12 := by
    have := lQ
    rw [eQ, List.length_cons] at this
    rw [← hQ3, List.length_cons, same_len same]
    exact ⟨by omega, this.2⟩
  have oQ3 : ∀ T ∈ Q3, T.length = P ∧ ∀ x ∈ T, 0 ≤ x ∧ x < n := fun T hT => by
    rw [← hQ3] at hT
    rcases List.mem_cons.mp hT with rfl | hT
    · exact oN
    rcases same_mem same T hT with h | rfl
    · exact oQ T (by rw [eQ]; exact List.mem_cons_of_mem _ h)
    · exact oN
  rw [hQ3]
  obtain ⟨T3, n0, at3⟩ : ∃ T3, T3 ∈ Q3 ∧ ∀ {β : Type} {f : List Int → β}, L2.atI (Q3.map f) 0 = some (f T3) := by
    clear hQ3
    cases Q3 with
    | nil => cases lQ3.1
    | cons T Q3 => exact ⟨T, List.mem_cons_self, fun {β f} => by simp [L2.atI, L2.ixN]⟩
  refine ⟨st78 i n s A P, keep78 hs, ?_⟩
  walk_at "go"
  refine ⟨by rw [List.length_map]; simp only [sizeLine]; omega, ?_⟩
  refine Lc.maps (fun S => ∃ s15, S = [.free, .val (.int i), .own s, .val (tabD n 2 A), .val (.int P), .val (.lst (Q3.map lsD)), .free, .free, .free, .free, .free, .free, .val (.int n), .free, .free, s15, .free, .free, .free]) lsD (fun T => .lst ((rests A T).map chD)) Q3 ⟨_, rfl⟩ ?_ ?_
  · rintro T hT S0 ⟨s15, rfl⟩ P' hP'
    have hT := oQ3 T hT
    walk_at "go"
    refine rests_wp (by omega) (by omega) hT.2 ?_
    walk_at "go"
    exact hP' _ ⟨_, rfl⟩
  rintro S ⟨s15, rfl⟩
  have lT := rests_len (A := A) (T := T3) (by rw [(oQ3 T3 n0).1]; omega)
  walk_at "go"
  rw [at3]
  walk_at "go"
  refine ⟨by rw [List.length_map]; simp only [sizeLine]; omega, ?_⟩
  refine Lc.sels (fun S => ∃ s16 s18, S = [.free, .val (.int i), .own s, .val (tabD n 2 A), .val (.int P), .val (.lst (Q3.map lsD)), .free, .val (.lst (Q3.map fun T => .lst ((rests A T).map chD))), .free, .free, .free, .free, .val (.int n), .free, .free, s15, s16, .free, s18]) chD chD (fun N => decide (∀ T ∈ Q3, N ∈ rests A T)) (rests A T3) ⟨_, _, rfl⟩ ?_ ?_
  · rintro N hN S0 ⟨s16, s18, rfl⟩ P1 P2 hP1 hP2
    walk_at "go"
    refine ⟨by rw [List.length_map]; simp only [sizeLine]; omega, ?_⟩
    refine Lc.maps (fun S => ∃ s18, S = [.free, .val (.int i), .own s, .val (tabD n 2 A), .val (.int P), .val (.lst (Q3.map lsD)), .free, .val (.lst (Q3.map fun T => .lst ((rests A T).map chD))), .free, .free, .free, .free, .val (.int n), .free, .free, s15, .val (chD N), .free, s18]) (fun T => .lst ((rests A T).map chD)) (fun T => .bl (decide (N ∈ rests A T))) Q3 ⟨_, rfl⟩ ?_ ?_
    · rintro T hT S0 ⟨s18, rfl⟩ P' hP'
      walk_at "go"
      refine ⟨chD_ok, chs_ok, ?_⟩
      rw [memD_ch]
      exact hP' _ ⟨_, rfl⟩
    rintro S ⟨s18, rfl⟩
    rw [show Q3.map (fun T => DL.D.bl (decide (N ∈ rests A T))) = (Q3.map fun T => decide (N ∈ rests A T)).map DL.D.bl by rw [List.map_map]; rfl]
    walk_at "go"
    refine onBls_map ?_
    have e : (Q3.map fun T => decide (N ∈ rests A T)).all id = decide (∀ T ∈ Q3, N ∈ rests A T) := by
      by_cases w : ∀ T ∈ Q3, N ∈ rests A T
      · rw [decide_eq_true w]
        exact all_dec.mpr w
      · rw [decide_eq_false w, Bool.eq_false_iff]
        exact fun q => w (all_dec.mp q)
    rw [e]
    walk_at "go"
    exact ⟨fun q => by walk_at "go"; exact hP1 q _ ⟨_, _, rfl⟩, fun q => hP2 q _ ⟨_, _, rfl⟩⟩
  rintro S ⟨s16, s18, rfl⟩
  rw [shared_eq n0 fun T hT => (oQ3 T hT).1]
  have lS := shared_len (A := A) (p := P) (Q := Q3) (by omega)
  walk_at "go"
  refine shared_wp P0 (by omega) lQ3.1 lQ3.2 oQ3 ?_
  walk_at "go"
  have okS3 : eqOk 20 (.lst ((shared A P Q3).map chD)) := eqOk_lst chs_ok
  refine ⟨eqc_of okS3 okS3, ?_⟩
  rw [show deq (Ct.lst ((shared A P Q3).map chD)).d (Ct.lst ((shared A P Q3).map chD)).d = true from deq_self]
  walk_at "go"
  exact ⟨_, _, _, _, _, _, _, _, _, _, _, _, _, _, _, _, _, _, _, rfl⟩
end W

namespace W
open PySem L2 DL PyProof.Rows
abbrev N__law_source_of : List Str := ["_law_cell"]
theorem sc__law_source_of : FnScope N__law_source_of ["_law_cell"] (defScope s__law_source_of) := ⟨rfl, rfl, rfl, by decide +kernel, rfl, by decide +kernel, by decide +kernel⟩
abbrev N__law_next : List Str := ["_law_source", "_law_count_of", "_law_prime", "_law_figure", "_law_found"]
theorem sc__law_next : FnScope N__law_next ["_law_source", "_law_count_of"] (defScope s__law_next) := ⟨rfl, rfl, rfl, by decide +kernel, rfl, by decide +kernel, by decide +kernel⟩
abbrev N__law_one : List Str := ["_law_source", "_law_some"]
theorem sc__law_one : FnScope N__law_one ["_law_source", "_law_some"] (defScope s__law_one) := ⟨rfl, rfl, rfl, by decide +kernel, rfl, by decide +kernel, by decide +kernel⟩
abbrev N__law_pairs : List Str := ["_law_source", "_law_notes_here", "_law_thick", "_law_every", "_law_one_here", "_law_some", "_law_other"]
theorem sc__law_pairs : FnScope N__law_pairs ["_law_source"] (defScope s__law_pairs) := ⟨rfl, rfl, rfl, by decide +kernel, rfl, by decide +kernel, by decide +kernel⟩
abbrev N_is_whole : List Str := ["thing"]
theorem sc_is_whole : FnScope N_is_whole ["thing"] (defScope s_is_whole) := ⟨rfl, rfl, rfl, by decide +kernel, rfl, by decide +kernel, by decide +kernel⟩
abbrev N_is_note_2 : List Str := ["thing", "notes"]
theorem sc_is_note_2 : FnScope N_is_note_2 ["thing", "notes"] (defScope s_is_note_2) := ⟨rfl, rfl, rfl, by decide +kernel, rfl, by decide +kernel, by decide +kernel⟩
abbrev N_is_chord : List Str := ["thing", "notes", "voices", "one"]
theorem sc_is_chord : FnScope N_is_chord ["thing", "notes", "voices"] (defScope s_is_chord) := ⟨rfl, rfl, rfl, by decide +kernel, rfl, by decide +kernel, by decide +kernel⟩
abbrev N_check_chords : List Str := ["thing", "notes", "voices", "seen", "at", "one"]
theorem sc_check_chords : FnScope N_check_chords ["thing", "notes", "voices"] (defScope s_check_chords) := ⟨rfl, rfl, rfl, by decide +kernel, rfl, by decide +kernel, by decide +kernel⟩
abbrev N_Table__init_ : List Str := ["self", "notes", "voices", "allowed", "chord"]
theorem sc_Table__init_ : FnScope N_Table__init_ ["self", "notes", "voices", "allowed"] (defScope s_Table__init_) := ⟨rfl, rfl, rfl, by decide +kernel, rfl, by decide +kernel, by decide +kernel⟩
abbrev N_Table_voices : List Str := ["self"]
theorem sc_Table_voices : FnScope N_Table_voices ["self"] (defScope s_Table_voices) := ⟨rfl, rfl, rfl, by decide +kernel, rfl, by decide +kernel, by decide +kernel⟩
abbrev N_check_voices : List Str := ["table"]
theorem sc_check_voices : FnScope N_check_voices ["table"] (defScope s_check_voices) := ⟨rfl, rfl, rfl, by decide +kernel, rfl, by decide +kernel, by decide +kernel⟩
abbrev N_Table_allowed : List Str := ["self"]
theorem sc_Table_allowed : FnScope N_Table_allowed ["self"] (defScope s_Table_allowed) := ⟨rfl, rfl, rfl, by decide +kernel, rfl, by decide +kernel, by decide +kernel⟩
abbrev N_all_fours : List Str := ["many", "pairs", "one", "other", "first", "last"]
theorem sc_all_fours : FnScope N_all_fours ["many"] (defScope s_all_fours) := ⟨rfl, rfl, rfl, by decide +kernel, rfl, by decide +kernel, by decide +kernel⟩
abbrev N_rests_fit : List Str := ["allowed", "song", "rests", "many", "a", "b", "c", "d", "t"]
theorem sc_rests_fit : FnScope N_rests_fit ["allowed", "song", "rests"] (defScope s_rests_fit) := ⟨rfl, rfl, rfl, by decide +kernel, rfl, by decide +kernel, by decide +kernel⟩
abbrev N_Table_notes : List Str := ["self"]
theorem sc_Table_notes : FnScope N_Table_notes ["self"] (defScope s_Table_notes) := ⟨rfl, rfl, rfl, by decide +kernel, rfl, by decide +kernel, by decide +kernel⟩
abbrev N_is_note : List Str := ["table", "thing"]
theorem sc_is_note : FnScope N_is_note ["table", "thing"] (defScope s_is_note) := ⟨rfl, rfl, rfl, by decide +kernel, rfl, by decide +kernel, by decide +kernel⟩
abbrev N_rests_shared : List Str := ["table", "songs", "allowed", "at", "song", "good", "rests", "note"]
theorem sc_rests_shared : FnScope N_rests_shared ["table", "songs"] (defScope s_rests_shared) := ⟨rfl, rfl, rfl, by decide +kernel, rfl, by decide +kernel, by decide +kernel⟩
abbrev N__law_cell_at : List Str := ["_law_script", "_law_k"]
theorem sc__law_cell_at : FnScope N__law_cell_at ["_law_script", "_law_k"] (defScope s__law_cell_at) := ⟨rfl, rfl, rfl, by decide +kernel, rfl, by decide +kernel, by decide +kernel⟩
abbrev N_check_notes : List Str := ["table", "thing", "least", "most", "at", "note"]
theorem sc_check_notes : FnScope N_check_notes ["table", "thing", "least", "most"] (defScope s_check_notes) := ⟨rfl, rfl, rfl, by decide +kernel, rfl, by decide +kernel, by decide +kernel⟩
abbrev N_rests_of : List Str := ["table", "song", "allowed", "rests"]
theorem sc_rests_of : FnScope N_rests_of ["table", "song"] (defScope s_rests_of) := ⟨rfl, rfl, rfl, by decide +kernel, rfl, by decide +kernel, by decide +kernel⟩
abbrev N__law_mixed : List Str := ["_law_source", "_law_some", "_law_left", "_law_found"]
theorem sc__law_mixed : FnScope N__law_mixed ["_law_source", "_law_some"] (defScope s__law_mixed) := ⟨rfl, rfl, rfl, by decide +kernel, rfl, by decide +kernel, by decide +kernel⟩
abbrev N_law : List Str := ["_law_script", "_law_cell", "_law_source", "_law_grid", "_law_p", "_law_songs_here", "_law_k", "_law_alone", "_law_due", "_law_kept", "_law_found", "_law_count_of", "_law_notes_here", "_law_allowed", "_law_fewer", "_law_song", "_law_rests", "_law_at", "_law_others"]
theorem sc_law : FnScope N_law ["_law_script"] (defScope s_law) := ⟨rfl, rfl, rfl, by decide +kernel, rfl, by decide +kernel, by decide +kernel⟩
/-- what stands behind the top -/
structure Tx (K : PySem.W.Frag) (mg : Str → Option Value) where
  C_Table : Addr
  a__law_source_of : Addr
  fd__law_source_of : FuncData
  a__law_next : Addr
  fd__law_next : FuncData
  a__law_one : Addr
  fd__law_one : FuncData
  a__law_pairs : Addr
  fd__law_pairs : FuncData
  a_is_whole : Addr
  fd_is_whole : FuncData
  a_is_note_2 : Addr
  fd_is_note_2 : FuncData
  a_is_chord : Addr
  fd_is_chord : FuncData
  a_check_chords : Addr
  fd_check_chords : FuncData
  a_Table__init_ : Addr
  fd_Table__init_ : FuncData
  a_Table_voices : Addr
  fd_Table_voices : FuncData
  a_check_voices : Addr
  fd_check_voices : FuncData
  a_Table_allowed : Addr
  fd_Table_allowed : FuncData
  a_all_fours : Addr
  fd_all_fours : FuncData
  a_rests_fit : Addr
  fd_rests_fit : FuncData
  a_Table_notes : Addr
  fd_Table_notes : FuncData
  a_is_note : Addr
  fd_is_note : FuncData
  a_rests_shared : Addr
  fd_rests_shared : FuncData
  a__law_cell_at : Addr
  fd__law_cell_at : FuncData
  a_check_notes : Addr
  fd_check_notes : FuncData
  a_rests_of : Addr
  fd_rests_of : FuncData
  a__law_mixed : Addr
  fd__law_mixed : FuncData
  a_law : Addr
  fd_law : FuncData
  F__law_source_of : Fun K "_law_source_of" "_law_source_of" s__law_source_of a__law_source_of fd__law_source_of
  F__law_next : Fun K "_law_next" "_law_next" s__law_next a__law_next fd__law_next
  F__law_one : Fun K "_law_one" "_law_one" s__law_one a__law_one fd__law_one
  F__law_pairs : Fun K "_law_pairs" "_law_pairs" s__law_pairs a__law_pairs fd__law_pairs
  F_is_whole : Fun K "is_whole" "is_whole" s_is_whole a_is_whole fd_is_whole
  F_is_note_2 : Fun K "is_note" "is_note" s_is_note_2 a_is_note_2 fd_is_note_2
  F_is_chord : Fun K "is_chord" "is_chord" s_is_chord a_is_chord fd_is_chord
  F_check_chords : Fun K "check_chords" "check_chords" s_check_chords a_check_chords fd_check_chords
  F_Table__init_ : Fun K "__init__" "Table.__init__" s_Table__init_ a_Table__init_ fd_Table__init_
  F_Table_voices : Fun K "voices" "Table.voices" s_Table_voices a_Table_voices fd_Table_voices
  F_check_voices : Fun K "check_voices" "check_voices" s_check_voices a_check_voices fd_check_voices
  F_Table_allowed : Fun K "allowed" "Table.allowed" s_Table_allowed a_Table_allowed fd_Table_allowed
  F_all_fours : Fun K "all_fours" "all_fours" s_all_fours a_all_fours fd_all_fours
  F_rests_fit : Fun K "rests_fit" "rests_fit" s_rests_fit a_rests_fit fd_rests_fit
  F_Table_notes : Fun K "notes" "Table.notes" s_Table_notes a_Table_notes fd_Table_notes
  F_is_note : Fun K "is_note" "is_note" s_is_note a_is_note fd_is_note
  F_rests_shared : Fun K "rests_shared" "rests_shared" s_rests_shared a_rests_shared fd_rests_shared
  F__law_cell_at : Fun K "_law_cell_at" "_law_cell_at" s__law_cell_at a__law_cell_at fd__law_cell_at
  F_check_notes : Fun K "check_notes" "check_notes" s_check_notes a_check_notes fd_check_notes
  F_rests_of : Fun K "rests_of" "rests_of" s_rests_of a_rests_of fd_rests_of
  F__law_mixed : Fun K "_law_mixed" "_law_mixed" s__law_mixed a__law_mixed fd__law_mixed
  F_law : Fun K "law" "law" s_law a_law fd_law
  g__law_source_of___law_source_of : mg "_law_source_of" = some (.ref a__law_source_of)
  B__law_source_of : Binds K fd__law_source_of ["_law_cell"] []
  g__law_next___law_next : mg "_law_next" = some (.ref a__law_next)
  B__law_next : Binds K fd__law_next ["_law_source", "_law_count_of"] []
  g__law_one___law_one : mg "_law_one" = some (.ref a__law_one)
  B__law_one : Binds K fd__law_one ["_law_source", "_law_some"] []
  g__law_pairs___law_pairs : mg "_law_pairs" = some (.ref a__law_pairs)
  B__law_pairs : Binds K fd__law_pairs ["_law_source"] []
  g_is_whole__is_whole : mg "is_whole" = some (.ref a_is_whole)
  B_is_whole : Binds K fd_is_whole ["thing"] []
  g_is_note_2__is_note_tables : mg "is_note_tables" = some (.ref a_is_note_2)
  B_is_note_2 : Binds K fd_is_note_2 ["thing", "notes"] []
  g_is_chord__is_chord : mg "is_chord" = some (.ref a_is_chord)
  B_is_chord : Binds K fd_is_chord ["thing", "notes", "voices"] []
  g_check_chords__check_chords : mg "check_chords" = some (.ref a_check_chords)
  B_check_chords : Binds K fd_check_chords ["thing", "notes", "voices"] []
  B_Table__init_ : Binds K fd_Table__init_ ["self", "notes", "voices", "allowed"] []
  B_Table_voices : Binds K fd_Table_voices ["self"] []
  m_Table_voices : Meth K C_Table "voices" a_Table_voices
  g_check_voices__check_voices : mg "check_voices" = some (.ref a_check_voices)
  B_check_voices : Binds K fd_check_voices ["table"] []
  B_Table_allowed : Binds K fd_Table_allowed ["self"] []
  m_Table_allowed : Meth K C_Table "allowed" a_Table_allowed
  g_all_fours__all_fours : mg "all_fours" = some (.ref a_all_fours)
  B_all_fours : Binds K fd_all_fours ["many"] []
  g_rests_fit__rests_fit : mg "rests_fit" = some (.ref a_rests_fit)
  B_rests_fit : Binds K fd_rests_fit ["allowed", "song", "rests"] []
  B_Table_notes : Binds K fd_Table_notes ["self"] []
  m_Table_notes : Meth K C_Table "notes" a_Table_notes
  g_is_note__is_note_which : mg "is_note_which" = some (.ref a_is_note)
  B_is_note : Binds K fd_is_note ["table", "thing"] []
  g_rests_shared__rests_shared : mg "rests_shared" = some (.ref a_rests_shared)
  B_rests_shared : Binds K fd_rests_shared ["table", "songs"] []
  g__law_cell_at___law_cell_at : mg "_law_cell_at" = some (.ref a__law_cell_at)
  B__law_cell_at : Binds K fd__law_cell_at ["_law_script", "_law_k"] []
  g_check_notes__check_notes : mg "check_notes" = some (.ref a_check_notes)
  B_check_notes : Binds K fd_check_notes ["table", "thing", "least", "most"] []
  g_rests_of__rests_of : mg "rests_of" = some (.ref a_rests_of)
  B_rests_of : Binds K fd_rests_of ["table", "song"] []
  g__law_mixed___law_mixed : mg "_law_mixed" = some (.ref a__law_mixed)
  B__law_mixed : Binds K fd__law_mixed ["_law_source", "_law_some"] []
  g_law__law : mg "law" = some (.ref a_law)
  B_law : Binds K fd_law ["_law_script"] []
  cl_Table : Cls K C_Table
  gC_Table : mg "Table" = some (.ref C_Table)
  mk_Table : Mk K C_Table a_Table__init_
  na_Table_scale : NoAttr K C_Table "scale"
  na_Table_choir : NoAttr K C_Table "choir"
  na_Table_chords : NoAttr K C_Table "chords"
  b_all : mg "all" = none
  b_bool : mg "bool" = none
  b_enumerate : mg "enumerate" = none
  b_int : mg "int" = none
  b_isinstance : mg "isinstance" = none
  b_len : mg "len" = none
  b_list : mg "list" = none
  b_range : mg "range" = none
  b_repr : mg "repr" = none
  b_sorted : mg "sorted" = none
  b_tuple : mg "tuple" = none
  c_MOST_SONG : ∃ t, mg "MOST_SONG" = some (.int 8 t)
  c_MOST_SONGS : ∃ t, mg "MOST_SONGS" = some (.int 12 t)
  c_MOST_NOTES : ∃ t, mg "MOST_NOTES" = some (.int 4 t)
  c_MOST_VOICES : ∃ t, mg "MOST_VOICES" = some (.int 4 t)
  KW_rests_shared_0_songs_table : KwB K fd_rests_shared ["table", "songs"] 0 ["songs", "table"] [1, 0]
section
variable {P : Program} {w : World} {K : PySem.W.Frag} {mg : Str → Option Value} {base : Heap}
abbrev nm (T : Tx K mg) : Nm := ⟨K, fun i => [0, 0, T.C_Table, 0, 0, 0, 0].getD i 0, NMs⟩
theorem nmok {T : Tx K mg} : NmOk (nm T) := ⟨show NMs.Nodup by decide +kernel, show NMs.length < 1000 by decide⟩
theorem ok__law_source_of (T : Tx K mg) : FnOk P w K mg base CX0 1 T.a__law_source_of T.fd__law_source_of ["_law_cell"] (spOf (nm T) (lift0 phi__law_source_of)) :=
  fn_ok0 (g := b__law_source_of) T.F__law_source_of sc__law_source_of (fun ds R h => by rw [h.len]; rfl) (fun cdv A outer s H E F0 hr => (jb_one (js_retF (jf_lst (jv_cons (je_op (bd_mul (by rfl)) (jo_var (pv 0)) (jo_e (je_callTy (cd_int) (by rfl) T.b_int (by decide +kernel) (ja_cons (jo_e (je_cmp bd_ge (jo_var (pv 0)) (jo_e (je_op bd_pow (jo_e je_int) (jo_e je_int))) (nomark _))) ja_nil)))) (jv_cons (je_op bd_mod (jo_var (pv 0)) (jo_e je_int)) (jv_cons je_int jv_nil))))))) fun ds R h => h.run
theorem ok__law_next (T : Tx K mg) : FnOk P w K mg base CX0 1 T.a__law_next T.fd__law_next ["_law_source", "_law_count_of"] (spOf (nm T) (lift1 phi__law_next)) :=
  fn_ok1 (g := b__law_next) T.F__law_next sc__law_next (fun c ds R h => by rw [h.len]; rfl) (fun cdv A outer s H E F0 a hr => (jb_cons (js_ite (jt_cmp bd_gt (jo_e (je_ix rfl (jo_var (pv 0)) (jo_e je_int) (fun _ _ => rfl))) (jo_e je_int) (nomark _)) (jb_cons (js_asg (je_op bd_mod (jo_e (je_ix rfl (jo_var (pv 0)) (jo_e je_int) (fun _ _ => rfl))) (jo_var (pv 1))) (jg_of rfl (pg_name (i := 4) sc__law_next.nd rfl (by first | exact Or.inl rfl | exact Or.inr rfl)) gok_name (prAll rfl)))
  (jb_cons (js_asg (je_op bd_div (jo_e (je_ix rfl (jo_var (pv 0)) (jo_e je_int) (fun _ _ => rfl))) (jo_var (pv 1))) (jg_setL (pv 0) je_int))
  (jb_one (js_ret (je_var (pv 4))))))
  jb_nil)
  (jb_cons (js_asg (je_op (bd_add (by rfl)) (jo_e (je_ix rfl (jo_var (pv 0)) (jo_e je_int) (fun _ _ => rfl))) (jo_e je_int)) (jg_setL (pv 0) je_int))
  (jb_cons (js_asg (je_ix rfl (jo_e (je_frz (jf_lst (jv_cons je_int (jv_cons je_int (jv_cons je_int (jv_cons je_int (jv_cons je_int (jv_cons je_int (jv_cons je_int jv_nil)))))))))) (jo_e (je_op bd_mod (jo_e (je_ix rfl (jo_var (pv 0)) (jo_e je_int) (fun _ _ => rfl))) (jo_e je_int))) (fun _ _ => rfl)) (jg_of rfl (pg_name (i := 2) sc__law_next.nd rfl (by first | exact Or.inl rfl | exact Or.inr rfl)) gok_name (prAll rfl)))
  (jb_cons (js_asg (je_op bd_mod (jo_e (je_op bd_pow (jo_e (je_op (bd_add (by rfl)) (jo_e (je_op (bd_add (by rfl)) (jo_e (je_ix rfl (jo_var (pv 0)) (jo_e je_int) (fun _ _ => rfl))) (jo_e (je_op (bd_mul (by rfl)) (jo_e je_int) (jo_e (je_ix rfl (jo_var (pv 0)) (jo_e je_int) (fun _ _ => rfl))))))) (jo_e je_int))) (jo_e je_int))) (jo_var (pv 2))) (jg_of rfl (pg_name (i := 3) sc__law_next.nd rfl (by first | exact Or.inl rfl | exact Or.inr rfl)) gok_name (prAll rfl)))
  (jb_cons (js_asg (je_op bd_mod (jo_e (je_op (bd_mul (by rfl)) (jo_e (je_op (bd_add (by rfl)) (jo_var (pv 3)) (jo_e (je_ix rfl (jo_var (pv 0)) (jo_e je_int) (fun _ _ => rfl))))) (jo_e (je_op (bd_add (by rfl)) (jo_e (je_op bd_div (jo_var (pv 3)) (jo_e je_int))) (jo_e je_int))))) (jo_var (pv 2))) (jg_of rfl (pg_name (i := 3) sc__law_next.nd rfl (by first | exact Or.inl rfl | exact Or.inr rfl)) gok_name (prAll rfl)))
  (jb_one (js_ret (je_op bd_mod (jo_e (je_op bd_div (jo_var (pv 3)) (jo_e je_int))) (jo_var (pv 1))))))))))) fun c ds R h => h.run
theorem ok__law_one (T : Tx K mg) : FnOk P w K mg base CX0 2 T.a__law_one T.fd__law_one ["_law_source", "_law_some"] (spOf (nm T) (lift1 phi__law_one)) :=
  fn_ok1 (g := b__law_one) T.F__law_one sc__law_one (fun c ds R h => by rw [h.len]; rfl) (fun cdv A outer s H E F0 a hr => (jb_one (js_ret (je_ix rfl (jo_var (pv 1)) (jo_e (je_call (ok__law_next T) (hr.mono (by decide)) (by rfl) T.g__law_next___law_next T.F__law_next.kp T.B__law_next .nil pass0 (fun _ _ => rfl) (ja_cons (jo_var (pv 0)) (ja_cons (jo_e (je_callB (cd_len rfl) (by rfl) T.b_len (by decide +kernel) (ja_cons (jo_var (pv 1)) ja_nil))) ja_nil)))) (fun _ _ => rfl))))) fun c ds R h => h.run
theorem ok__law_pairs (T : Tx K mg) : FnOk P w K mg base CX0 3 T.a__law_pairs T.fd__law_pairs ["_law_source"] (spOf (nm T) (lift1 phi__law_pairs)) :=
  fn_ok1 (g := b__law_pairs) T.F__law_pairs sc__law_pairs (fun c ds R h => by rw [h.len]; rfl) (fun cdv A outer s H E F0 a hr => (jb_cons (js_asg (je_op (bd_add (by rfl)) (jo_e je_int) (jo_e (je_call (ok__law_next T) (hr.mono (by decide)) (by rfl) T.g__law_next___law_next T.F__law_next.kp T.B__law_next .nil pass0 (fun _ _ => rfl) (ja_cons (jo_var (pv 0)) (ja_cons (jo_e je_int) ja_nil))))) (jg_of rfl (pg_name (i := 1) sc__law_pairs.nd rfl (by first | exact Or.inl rfl | exact Or.inr rfl)) gok_name (prAll rfl)))
  (jb_cons (js_asg (je_call (ok__law_one T) (hr.mono (by decide)) (by rfl) T.g__law_one___law_one T.F__law_one.kp T.B__law_one .nil pass0 (fun _ _ => rfl) (ja_cons (jo_var (pv 0)) (ja_cons (jo_e (je_frz (jf_lst (jv_cons je_int (jv_cons je_int (jv_cons je_int (jv_cons je_int jv_nil))))))) ja_nil))) (jg_of rfl (pg_name (i := 2) sc__law_pairs.nd rfl (by first | exact Or.inl rfl | exact Or.inr rfl)) gok_name (prAll rfl)))
  (jb_cons (js_asg (je_frz (jf_lst jv_nil)) (jg_of rfl (pg_name (i := 3) sc__law_pairs.nd rfl (by first | exact Or.inl rfl | exact Or.inr rfl)) gok_name (prAll rfl)))
  (jb_cons (js_for PassesOwn.never rfl (ji_rangeA1 (by rfl) T.b_range (je_var (pv 1))) (jg_of rfl (pg_name (i := 4) sc__law_pairs.nd rfl (by first | exact Or.inl rfl | exact Or.inr rfl)) gok_name (prAll rfl))
  (jb_one (js_asg (je_op (bd_add (by rfl)) (jo_var (pv 3)) (jo_e (je_frz (jf_lc (own := [("_law_other", 6)]) (g := gName 6) rfl rfl sc__law_pairs.nd (ji_rangeA1 (by rfl) T.b_range (je_var (pv 1))) (blkOk_by (N := N__law_pairs) (sc := defScope s__law_pairs) (by decide +kernel)) (fun _ _ _ _ _ => (pg_name (i := 6) sc__law_pairs.nd rfl (by first | exact Or.inl rfl | exact Or.inr rfl))) gok_name (prAll rfl) (fun _ _ _ _ _ _ _ => jts_nil) (fun _ _ _ _ _ _ _ => (je_tup (jv_cons (je_var (pv 4)) (jv_cons (je_var (pv 6)) jv_nil)))))))) (jg_of rfl (pg_name (i := 3) sc__law_pairs.nd rfl (by first | exact Or.inl rfl | exact Or.inr rfl)) gok_name (prAll rfl)))))
  (jb_one (js_ret (je_tup (jv_cons (je_var (pv 1)) (jv_cons (je_frz (jf_lc (own := [("_law_some", 5)]) (g := gName 5) rfl rfl sc__law_pairs.nd (ji_seq rfl (je_var (pv 3))) (blkOk_by (N := N__law_pairs) (sc := defScope s__law_pairs) (by decide +kernel)) (fun _ _ _ _ _ => (pg_name (i := 5) sc__law_pairs.nd rfl (by first | exact Or.inl rfl | exact Or.inr rfl))) gok_name (prAll rfl) (fun _ _ _ _ _ _ _ => (jts_one (jt_cmp bd_gt (jo_e (je_call (ok__law_next T) (hr.mono (by decide)) (by rfl) T.g__law_next___law_next T.F__law_next.kp T.B__law_next .nil pass0 (fun _ _ => rfl) (ja_cons (jo_var (pv 0)) (ja_cons (jo_var (pv 2)) ja_nil)))) (jo_e je_int) (nomark _)))) (fun _ _ _ _ _ _ _ => (je_var (pv 5))))) jv_nil)))))))))) fun c ds R h => h.run
theorem ok_is_whole (T : Tx K mg) : FnOk P w K mg base CX0 1 T.a_is_whole T.fd_is_whole ["thing"] (spOf (nm T) (lift0 phi_is_whole)) :=
  fn_ok0 (g := b_is_whole) T.F_is_whole sc_is_whole (fun ds R h => by rw [h.len]; rfl) (fun cdv A outer s H E F0 hr => (jb_one (js_ret (je_and (je_isi isi_int rfl (jo_var (pv 0)) (pe_bltn (v := .ty "int") (by rfl) T.b_int (by decide +kernel) rfl) (by rfl) T.b_isinstance) (je_one (je_not (je_isi isi_bool rfl (jo_var (pv 0)) (pe_bltn (v := .ty "bool") (by rfl) T.b_bool (by decide +kernel) rfl) (by rfl) T.b_isinstance))))))) fun ds R h => h.run
theorem ok_is_note_2 (T : Tx K mg) : FnOk P w K mg base CX0 2 T.a_is_note_2 T.fd_is_note_2 ["thing", "notes"] (spOf (nm T) (lift0 phi_is_note_2)) :=
  fn_ok0 (g := b_is_note_2) T.F_is_note_2 sc_is_note_2 (fun ds R h => by rw [h.len]; rfl) (fun cdv A outer s H E F0 hr => (jb_one (js_ret (je_and (je_call (ok_is_whole T) (hr.mono (by decide)) (by rfl) T.g_is_whole__is_whole T.F_is_whole.kp T.B_is_whole .nil pass0 (fun _ _ => rfl) (ja_cons (jo_var (pv 0)) ja_nil)) (je_one (je_chain bd_le bd_lt (jo_e je_int) (jo_var (pv 0)) (jo_var (pv 1)))))))) fun ds R h => h.run
theorem ok_is_chord (T : Tx K mg) : FnOk P w K mg base CX0 3 T.a_is_chord T.fd_is_chord ["thing", "notes", "voices"] (spOf (nm T) (lift0 phi_is_chord)) :=
  fn_ok0 (g := b_is_chord) T.F_is_chord sc_is_chord (fun ds R h => by rw [h.len]; rfl) (fun cdv A outer s H E F0 hr => (jb_one (js_ret (je_and (je_isi isi_tuple rfl (jo_var (pv 0)) (pe_bltn (v := .ty "tuple") (by rfl) T.b_tuple (by decide +kernel) rfl) (by rfl) T.b_isinstance) (je_and (je_cmp (bd_eq rfl hr.units) (jo_e (je_callB (cd_len rfl) (by rfl) T.b_len (by decide +kernel) (ja_cons (jo_var (pv 0)) ja_nil))) (jo_var (pv 2)) (nomark _)) (je_one (je_callB (cd_all rfl rfl) (by rfl) T.b_all (by decide +kernel) (ja_cons (jo_e (je_frz (jf_lc (own := [("one", 3)]) (g := gName 3) rfl rfl sc_is_chord.nd (ji_seq rfl (je_var (pv 0))) (blkOk_by (N := N_is_chord) (sc := defScope s_is_chord) (by decide +kernel)) (fun _ _ _ _ _ => (pg_name (i := 3) sc_is_chord.nd rfl (by first | exact Or.inl rfl | exact Or.inr rfl))) gok_name (prAll rfl) (fun _ _ _ _ _ _ _ => jts_nil) (fun _ _ _ _ _ _ _ => (je_call (ok_is_note_2 T) (hr.mono (by decide)) (by rfl) T.g_is_note_2__is_note_tables T.F_is_note_2.kp T.B_is_note_2 .nil pass0 (fun _ _ => rfl) (ja_cons (jo_var (pv 3)) (ja_cons (jo_var (pv 1)) ja_nil))))))) ja_nil)))))))) fun ds R h => h.run
theorem ok_check_chords (T : Tx K mg) : FnOk P w K mg base CX0 4 T.a_check_chords T.fd_check_chords ["thing", "notes", "voices"] (spOf (nm T) (lift0 phi_check_chords)) :=
  fn_ok0 (g := b_check_chords) T.F_check_chords sc_check_chords (fun ds R h => by rw [h.len]; rfl) (fun cdv A outer s H E F0 hr => (jb_cons (js_ite (jt_not (jt_val (je_isi isi_list rfl (jo_var (pv 0)) (pe_bltn (v := .ty "list") (by rfl) T.b_list (by decide +kernel) rfl) (by rfl) T.b_isinstance))) (jb_one js_never)
  jb_nil)
  (jb_cons (js_asgF jf_dnewT (pg_name (i := 3) sc_check_chords.nd rfl (by first | exact Or.inl rfl | exact Or.inr rfl)) rfl)
  (jb_one (js_for PassesOwn.never rfl (ji_enum rfl (by rfl) T.b_enumerate (je_var (pv 0))) (jg_of rfl (pg_tup rfl (pgs_cons (pg_name (i := 4) sc_check_chords.nd rfl (by first | exact Or.inl rfl | exact Or.inr rfl)) (pgs_cons (pg_name (i := 5) sc_check_chords.nd rfl (by first | exact Or.inl rfl | exact Or.inr rfl)) pgs_nil))) (gok_tup (gsok_cons gok_name (gsok_cons gok_name gsok_nil))) (prAll rfl))
  (jb_cons (js_ite (JW.jt (jw_or (jt_not (jt_val (je_call (ok_is_chord T) (hr.mono (by decide)) (by rfl) T.g_is_chord__is_chord T.F_is_chord.kp T.B_is_chord .nil pass0 (fun _ _ => rfl) (ja_cons (jo_var (pv 5)) (ja_cons (jo_var (pv 1)) (ja_cons (jo_var (pv 2)) ja_nil)))))) (jw_or1 (jt_xin hr.units (je_var (pv 5)) (jo_var (pv 3)) (by with_unfolding_all rfl))))) (jb_one js_never)
  jb_nil)
  (jb_one (js_xput hr.units (pv 3) (je_var (pv 5)) je_bl)))))))) fun ds R h => h.run
theorem ok_Table__init_ (T : Tx K mg) : FnOk P w K mg base CX0 5 T.a_Table__init_ T.fd_Table__init_ ["self", "notes", "voices", "allowed"] (spI (nm T) 2 phi_Table__init_) :=
  fn_okI (g := b_Table__init_) T.F_Table__init_ sc_Table__init_ (fun ds R h => by rw [h.len]; rfl) (fun cdv A outer s H E F0 a hr => (jb_cons (js_ite (JW.jt (jw_or (jt_not (jt_val (je_call (ok_is_whole T) (hr.mono (by decide)) (by rfl) T.g_is_whole__is_whole T.F_is_whole.kp T.B_is_whole .nil pass0 (fun _ _ => rfl) (ja_cons (jo_var (pv 1)) ja_nil)))) (jw_or1 (jt_not (jt_chain bd_le bd_le (jo_e je_int) (jo_var (pv 1)) (jo_e (je_glob (v := .int 4) (by rfl) T.c_MOST_NOTES.choose_spec ⟨_, rfl⟩ fun _ _ => rfl))))))) (jb_one js_never)
  jb_nil)
  (jb_cons (js_ite (JW.jt (jw_or (jt_not (jt_val (je_call (ok_is_whole T) (hr.mono (by decide)) (by rfl) T.g_is_whole__is_whole T.F_is_whole.kp T.B_is_whole .nil pass0 (fun _ _ => rfl) (ja_cons (jo_var (pv 2)) ja_nil)))) (jw_or1 (jt_not (jt_chain bd_le bd_le (jo_e je_int) (jo_var (pv 2)) (jo_e (je_glob (v := .int 4) (by rfl) T.c_MOST_VOICES.choose_spec ⟨_, rfl⟩ fun _ _ => rfl))))))) (jb_one js_never)
  jb_nil)
  (jb_cons (js_drop (je_call (ok_check_chords T) (hr.mono (by decide)) (by rfl) T.g_check_chords__check_chords T.F_check_chords.kp T.B_check_chords .nil pass0 (fun _ _ => rfl) (ja_cons (jo_var (pv 3)) (ja_cons (jo_var (pv 1)) (ja_cons (jo_var (pv 2)) ja_nil)))))
  (jb_cons (js_fld (i := 0) (c := 2) (k := 8) rfl nmok rfl (by decide) (pv 0) (je_var (pv 1)) T.cl_Table T.na_Table_scale rfl)
  (jb_cons (js_fld (i := 0) (c := 2) (k := 9) rfl nmok rfl (by decide) (pv 0) (je_var (pv 2)) T.cl_Table T.na_Table_choir rfl)
  (jb_one (js_fld (i := 0) (c := 2) (k := 10) rfl nmok rfl (by decide) (pv 0) (je_frz (jf_dc1 (c0 := (.dT [])) (own := [("chord", 4)]) (g := gName 4) rfl empT hr.units rfl sc_Table__init_.nd (ji_seq rfl (je_callB (cd_sortT rfl) (by rfl) T.b_sorted (by decide +kernel) (ja_cons (jo_var (pv 3)) ja_nil))) (blkOk_by (N := N_Table__init_) (sc := defScope s_Table__init_) (by decide +kernel)) (fun _ _ _ _ _ => (pg_name (i := 4) sc_Table__init_.nd rfl (by first | exact Or.inl rfl | exact Or.inr rfl))) gok_name (prAll rfl) (fun _ _ _ _ _ _ _ => jts_nil) (fun _ _ _ _ _ _ _ => (je_var (pv 4))) (fun _ _ _ _ _ _ _ => je_bl))) T.cl_Table T.na_Table_chords rfl)))))))) fun ds R h => h.run
theorem ok_Table_voices (T : Tx K mg) : FnOk P w K mg base CX0 1 T.a_Table_voices T.fd_Table_voices ["self"] (spOf (nm T) (lift0 phi_Table_voices)) :=
  fn_ok0 (g := b_Table_voices) T.F_Table_voices sc_Table_voices (fun ds R h => by rw [h.len]; rfl) (fun cdv A outer s H E F0 hr => (jb_one (js_ret (je_fld (c := 2) (k := 9) rfl (jo_var (pv 0)) T.cl_Table T.na_Table_choir rfl)))) fun ds R h => h.run
theorem ok_check_voices (T : Tx K mg) : FnOk P w K mg base CX0 2 T.a_check_voices T.fd_check_voices ["table"] (spOf (nm T) (lift0 phi_check_voices)) :=
  fn_ok0 (g := b_check_voices) T.F_check_voices sc_check_voices (fun ds R h => by rw [h.len]; rfl) (fun cdv A outer s H E F0 hr => (jb_one (js_ite (jt_cmp (bd_ne rfl hr.units) (jo_e (je_meth0 (c := 2) rfl (jo_var (pv 0)) T.cl_Table T.m_Table_voices (ok_Table_voices T) (hr.mono (by decide)) T.B_Table_voices .nil pass0 (fun _ _ => rfl) (show ¬ _ ∈ NMs by decide +kernel))) (jo_e je_int) (nomark _)) (jb_one js_never)
  jb_nil))) fun ds R h => h.run
theorem ok_Table_allowed (T : Tx K mg) : FnOk P w K mg base CX0 1 T.a_Table_allowed T.fd_Table_allowed ["self"] (spOf (nm T) (lift0 phi_Table_allowed)) :=
  fn_ok0 (g := b_Table_allowed) T.F_Table_allowed sc_Table_allowed (fun ds R h => by rw [h.len]; rfl) (fun cdv A outer s H E F0 hr => (jb_one (js_ret (je_frz (jf_listD rfl (by rfl) T.b_list (jo_e (je_fld (c := 2) (k := 10) rfl (jo_var (pv 0)) T.cl_Table T.na_Table_chords rfl))))))) fun ds R h => h.run
theorem ok_all_fours (T : Tx K mg) : FnOk P w K mg base CX0 1 T.a_all_fours T.fd_all_fours ["many"] (spOf (nm T) (lift0 phi_all_fours)) :=
  fn_ok0 (g := b_all_fours) T.F_all_fours sc_all_fours (fun ds R h => by rw [h.len]; rfl) (fun cdv A outer s H E F0 hr => (jb_cons (js_asg (je_frz (jf_lc2 (own := [("one", 2), ("other", 3)]) (own1 := [("other", 3)]) (g := gName 2) (g1 := gName 3) rfl rfl sc_all_fours.nd (ji_rangeA1 (by rfl) T.b_range (je_var (pv 0))) (blkOk_by (N := N_all_fours) (sc := defScope s_all_fours) (by decide +kernel)) (by decide) (fun _ _ _ _ _ => (pg_name (i := 2) sc_all_fours.nd rfl (by first | exact Or.inl rfl | exact Or.inr rfl))) (gok_more gok_name (by decide)) (prAll rfl) (fun _ _ _ _ _ _ _ => jts_nil) (fun _ _ _ _ _ _ _ => (ji_rangeA1 (by rfl) T.b_range (je_var (pv 0)))) (fun _ _ _ _ _ => (pg_name (i := 3) sc_all_fours.nd rfl (by first | exact Or.inl rfl | exact Or.inr rfl))) gok_name (fun _ _ _ _ _ _ _ => jts_nil) (fun _ _ _ _ _ _ _ => (je_tup (jv_cons (je_var (pv 2)) (jv_cons (je_var (pv 3)) jv_nil)))))) (jg_of rfl (pg_name (i := 1) sc_all_fours.nd rfl (by first | exact Or.inl rfl | exact Or.inr rfl)) gok_name (prAll rfl)))
  (jb_one (js_ret (je_frz (jf_lc2 (own := [("first", 4), ("last", 5)]) (own1 := [("last", 5)]) (g := gName 4) (g1 := gName 5) rfl rfl sc_all_fours.nd (ji_seq rfl (je_var (pv 1))) (blkOk_by (N := N_all_fours) (sc := defScope s_all_fours) (by decide +kernel)) (by decide) (fun _ _ _ _ _ => (pg_name (i := 4) sc_all_fours.nd rfl (by first | exact Or.inl rfl | exact Or.inr rfl))) (gok_more gok_name (by decide)) (prAll rfl) (fun _ _ _ _ _ _ _ => jts_nil) (fun _ _ _ _ _ _ _ => (ji_seq rfl (je_var (pv 1)))) (fun _ _ _ _ _ => (pg_name (i := 5) sc_all_fours.nd rfl (by first | exact Or.inl rfl | exact Or.inr rfl))) gok_name (fun _ _ _ _ _ _ _ => jts_nil) (fun _ _ _ _ _ _ _ => (je_op (bd_add (by rfl)) (jo_var (pv 4)) (jo_var (pv 5)))))))))) fun ds R h => h.run
theorem ok_rests_fit (T : Tx K mg) : FnOk P w K mg base CX0 1 T.a_rests_fit T.fd_rests_fit ["allowed", "song", "rests"] (spOf (nm T) (lift0 phi_rests_fit)) :=
  fn_ok0 (g := b_rests_fit) T.F_rests_fit sc_rests_fit (fun ds R h => by rw [h.len]; rfl) (fun cdv A outer s H E F0 hr => (jb_cons (js_asg (je_var (pv 2)) (jg_of rfl (pg_tup rfl (pgs_cons (pg_name (i := 4) sc_rests_fit.nd rfl (by first | exact Or.inl rfl | exact Or.inr rfl)) (pgs_cons (pg_name (i := 5) sc_rests_fit.nd rfl (by first | exact Or.inl rfl | exact Or.inr rfl)) (pgs_cons (pg_name (i := 6) sc_rests_fit.nd rfl (by first | exact Or.inl rfl | exact Or.inr rfl)) (pgs_cons (pg_name (i := 7) sc_rests_fit.nd rfl (by first | exact Or.inl rfl | exact Or.inr rfl)) pgs_nil))))) (gok_tup (gsok_cons gok_name (gsok_cons gok_name (gsok_cons gok_name (gsok_cons gok_name gsok_nil))))) (prAll rfl)))
  (jb_cons (js_asg (je_callB (cd_len rfl) (by rfl) T.b_len (by decide +kernel) (ja_cons (jo_var (pv 1)) ja_nil)) (jg_of rfl (pg_name (i := 3) sc_rests_fit.nd rfl (by first | exact Or.inl rfl | exact Or.inr rfl)) gok_name (prAll rfl)))
  (jb_one (js_ret (je_callB (cd_all rfl rfl) (by rfl) T.b_all (by decide +kernel) (ja_cons (jo_e (je_frz (jf_lc (own := [("t", 8)]) (g := gName 8) rfl rfl sc_rests_fit.nd (ji_rangeA1 (by rfl) T.b_range (je_var (pv 3))) (blkOk_by (N := N_rests_fit) (sc := defScope s_rests_fit) (by decide +kernel)) (fun _ _ _ _ _ => (pg_name (i := 8) sc_rests_fit.nd rfl (by first | exact Or.inl rfl | exact Or.inr rfl))) gok_name (prAll rfl) (fun _ _ _ _ _ _ _ => jts_nil) (fun _ _ _ _ _ _ _ => (je_cmp (bd_in rfl (room65 hr)) (jo_e (je_tup (jv_cons (je_ix rfl (jo_var (pv 1)) (jo_e (je_op bd_mod (jo_e (je_op (bd_add (by rfl)) (jo_e (je_op (bd_mul (by rfl)) (jo_var (pv 4)) (jo_var (pv 8)))) (jo_var (pv 5)))) (jo_var (pv 3)))) (fun _ _ => rfl)) (jv_cons (je_ix rfl (jo_var (pv 1)) (jo_e (je_op bd_mod (jo_e (je_op (bd_add (by rfl)) (jo_e (je_op (bd_mul (by rfl)) (jo_var (pv 6)) (jo_var (pv 8)))) (jo_var (pv 7)))) (jo_var (pv 3)))) (fun _ _ => rfl)) jv_nil)))) (jo_var (pv 0)) (by with_unfolding_all rfl)))))) ja_nil))))))) fun ds R h => h.run
theorem ok_Table_notes (T : Tx K mg) : FnOk P w K mg base CX0 1 T.a_Table_notes T.fd_Table_notes ["self"] (spOf (nm T) (lift0 phi_Table_notes)) :=
  fn_ok0 (g := b_Table_notes) T.F_Table_notes sc_Table_notes (fun ds R h => by rw [h.len]; rfl) (fun cdv A outer s H E F0 hr => (jb_one (js_ret (je_fld (c := 2) (k := 8) rfl (jo_var (pv 0)) T.cl_Table T.na_Table_scale rfl)))) fun ds R h => h.run
theorem ok_is_note (T : Tx K mg) : FnOk P w K mg base CX0 2 T.a_is_note T.fd_is_note ["table", "thing"] (spOf (nm T) (lift0 phi_is_note)) :=
  fn_ok0 (g := b_is_note) T.F_is_note sc_is_note (fun ds R h => by rw [h.len]; rfl) (fun cdv A outer s H E F0 hr => (jb_one (js_ret (je_and (je_call (ok_is_whole T) (hr.mono (by decide)) (by rfl) T.g_is_whole__is_whole T.F_is_whole.kp T.B_is_whole .nil pass0 (fun _ _ => rfl) (ja_cons (jo_var (pv 1)) ja_nil)) (je_one (je_chain bd_le bd_lt (jo_e je_int) (jo_var (pv 1)) (jo_e (je_meth0 (c := 2) rfl (jo_var (pv 0)) T.cl_Table T.m_Table_notes (ok_Table_notes T) (hr.mono (by decide)) T.B_Table_notes .nil pass0 (fun _ _ => rfl) (show ¬ _ ∈ NMs by decide +kernel))))))))) fun ds R h => h.run
theorem ok_rests_shared (T : Tx K mg) : FnOk P w K mg base CX0 3 T.a_rests_shared T.fd_rests_shared ["table", "songs"] (spOf (nm T) (lift0 phi_rests_shared)) :=
  fn_ok0 (g := b_rests_shared) T.F_rests_shared sc_rests_shared (fun ds R h => by rw [h.len]; rfl) (fun cdv A outer s H E F0 hr => (jb_cons (js_drop (je_call (ok_check_voices T) (hr.mono (by decide)) (by rfl) T.g_check_voices__check_voices T.F_check_voices.kp T.B_check_voices .nil pass0 (fun _ _ => rfl) (ja_cons (jo_var (pv 0)) ja_nil)))
  (jb_cons (js_ite (JW.jt (jw_or (jt_not (jt_val (je_isi isi_list rfl (jo_var (pv 1)) (pe_bltn (v := .ty "list") (by rfl) T.b_list (by decide +kernel) rfl) (by rfl) T.b_isinstance))) (jw_or1 (jt_not (jt_chain bd_le bd_le (jo_e je_int) (jo_e (je_callB (cd_len rfl) (by rfl) T.b_len (by decide +kernel) (ja_cons (jo_var (pv 1)) ja_nil))) (jo_e (je_glob (v := .int 12) (by rfl) T.c_MOST_SONGS.choose_spec ⟨_, rfl⟩ fun _ _ => rfl))))))) (jb_one js_never)
  jb_nil)
  (jb_cons (js_for PassesOwn.never rfl (ji_enum rfl (by rfl) T.b_enumerate (je_var (pv 1))) (jg_of rfl (pg_tup rfl (pgs_cons (pg_name (i := 3) sc_rests_shared.nd rfl (by first | exact Or.inl rfl | exact Or.inr rfl)) (pgs_cons (pg_name (i := 4) sc_rests_shared.nd rfl (by first | exact Or.inl rfl | exact Or.inr rfl)) pgs_nil))) (gok_tup (gsok_cons gok_name (gsok_cons gok_name gsok_nil))) (prAll rfl))
  (jb_cons (js_asg (je_and (je_isi isi_list rfl (jo_var (pv 4)) (pe_bltn (v := .ty "list") (by rfl) T.b_list (by decide +kernel) rfl) (by rfl) T.b_isinstance) (je_and (je_chain bd_le bd_le (jo_e je_int) (jo_e (je_callB (cd_len rfl) (by rfl) T.b_len (by decide +kernel) (ja_cons (jo_var (pv 4)) ja_nil))) (jo_e (je_glob (v := .int 8) (by rfl) T.c_MOST_SONG.choose_spec ⟨_, rfl⟩ fun _ _ => rfl))) (je_one (je_cmp (bd_eq rfl hr.units) (jo_e (je_callB (cd_len rfl) (by rfl) T.b_len (by decide +kernel) (ja_cons (jo_var (pv 4)) ja_nil))) (jo_e (je_callB (cd_len rfl) (by rfl) T.b_len (by decide +kernel) (ja_cons (jo_e (je_ix rfl (jo_var (pv 1)) (jo_e je_int) (fun _ _ => rfl))) ja_nil))) (nomark _))))) (jg_of rfl (pg_name (i := 5) sc_rests_shared.nd rfl (by first | exact Or.inl rfl | exact Or.inr rfl)) gok_name (prAll rfl)))
  (jb_one (js_ite (JW.jt (jw_or (jt_not (jt_val (je_var (pv 5)))) (jw_or1 (jt_not (jt_val (je_callB (cd_all rfl rfl) (by rfl) T.b_all (by decide +kernel) (ja_cons (jo_e (je_frz (jf_lc (own := [("note", 7)]) (g := gName 7) rfl rfl sc_rests_shared.nd (ji_seq rfl (je_var (pv 4))) (blkOk_by (N := N_rests_shared) (sc := defScope s_rests_shared) (by decide +kernel)) (fun _ _ _ _ _ => (pg_name (i := 7) sc_rests_shared.nd rfl (by first | exact Or.inl rfl | exact Or.inr rfl))) gok_name (prAll rfl) (fun _ _ _ _ _ _ _ => jts_nil) (fun _ _ _ _ _ _ _ => (je_call (ok_is_note T) (hr.mono (by decide)) (by rfl) T.g_is_note__is_note_which T.F_is_note.kp T.B_is_note .nil pass0 (fun _ _ => rfl) (ja_cons (jo_var (pv 0)) (ja_cons (jo_var (pv 7)) ja_nil))))))) ja_nil))))))) (jb_one js_never)
  jb_nil))))
  (jb_cons (js_asg (je_meth0 (c := 2) rfl (jo_var (pv 0)) T.cl_Table T.m_Table_allowed (ok_Table_allowed T) (hr.mono (by decide)) T.B_Table_allowed .nil pass0 (fun _ _ => rfl) (show ¬ _ ∈ NMs by decide +kernel)) (jg_of rfl (pg_name (i := 2) sc_rests_shared.nd rfl (by first | exact Or.inl rfl | exact Or.inr rfl)) gok_name (prAll rfl)))
  (jb_one (js_retF (jf_lc (own := [("rests", 6)]) (g := gName 6) rfl rfl sc_rests_shared.nd (ji_seq rfl (je_call (ok_all_fours T) (hr.mono (by decide)) (by rfl) T.g_all_fours__all_fours T.F_all_fours.kp T.B_all_fours .nil pass0 (fun _ _ => rfl) (ja_cons (jo_e (je_callB (cd_len rfl) (by rfl) T.b_len (by decide +kernel) (ja_cons (jo_e (je_ix rfl (jo_var (pv 1)) (jo_e je_int) (fun _ _ => rfl))) ja_nil))) ja_nil))) (blkOk_by (N := N_rests_shared) (sc := defScope s_rests_shared) (by decide +kernel)) (fun _ _ _ _ _ => (pg_name (i := 6) sc_rests_shared.nd rfl (by first | exact Or.inl rfl | exact Or.inr rfl))) gok_name (prAll rfl) (fun _ _ _ _ _ _ _ => (jts_one (jt_val (je_callB (cd_all rfl rfl) (by rfl) T.b_all (by decide +kernel) (ja_cons (jo_e (je_frz (jf_lc (own := [("song", 4)]) (g := gName 4) rfl rfl sc_rests_shared.nd (ji_seq rfl (je_var (pv 1))) (by exact blkOk_by (by rfl)) (fun _ _ _ _ _ => (pg_name (i := 4) sc_rests_shared.nd rfl (by first | exact Or.inl rfl | exact Or.inr rfl))) gok_name (prAll rfl) (fun _ _ _ _ _ _ _ => jts_nil) (fun _ _ _ _ _ _ _ => (je_call (ok_rests_fit T) (hr.mono (by decide)) (by rfl) T.g_rests_fit__rests_fit T.F_rests_fit.kp T.B_rests_fit .nil pass0 (fun _ _ => rfl) (ja_cons (jo_var (pv 2)) (ja_cons (jo_var (pv 4)) (ja_cons (jo_var (pv 6)) ja_nil)))))))) ja_nil))))) (fun _ _ _ _ _ _ _ => (je_var (pv 6))))))))))) fun ds R h => h.run
theorem ok__law_cell_at (T : Tx K mg) : FnOk P w K mg base CX0 1 T.a__law_cell_at T.fd__law_cell_at ["_law_script", "_law_k"] (spOf (nm T) (lift0 phi__law_cell_at)) :=
  fn_ok0 (g := b__law_cell_at) T.F__law_cell_at sc__law_cell_at (fun ds R h => by rw [h.len]; rfl) (fun cdv A outer s H E F0 hr => (jb_cons (js_ite (jt_cmp bd_lt (jo_var (pv 1)) (jo_e (je_callB (cd_len rfl) (by rfl) T.b_len (by decide +kernel) (ja_cons (jo_var (pv 0)) ja_nil))) (nomark _)) (jb_one (js_ret (je_ix rfl (jo_var (pv 0)) (jo_var (pv 1)) (fun _ _ => rfl))))
  jb_nil)
  (jb_one (js_ret je_int)))) fun ds R h => h.run
theorem ok_check_notes (T : Tx K mg) : FnOk P w K mg base CX0 3 T.a_check_notes T.fd_check_notes ["table", "thing", "least", "most"] (spOf (nm T) (lift0 phi_check_notes)) :=
  fn_ok0 (g := b_check_notes) T.F_check_notes sc_check_notes (fun ds R h => by rw [h.len]; rfl) (fun cdv A outer s H E F0 hr => (jb_cons (js_ite (JW.jt (jw_or (jt_not (jt_val (je_isi isi_list rfl (jo_var (pv 1)) (pe_bltn (v := .ty "list") (by rfl) T.b_list (by decide +kernel) rfl) (by rfl) T.b_isinstance))) (jw_or1 (jt_not (jt_chain bd_le bd_le (jo_var (pv 2)) (jo_e (je_callB (cd_len rfl) (by rfl) T.b_len (by decide +kernel) (ja_cons (jo_var (pv 1)) ja_nil))) (jo_var (pv 3))))))) (jb_one js_never)
  jb_nil)
  (jb_one (js_for PassesOwn.never rfl (ji_enum rfl (by rfl) T.b_enumerate (je_var (pv 1))) (jg_of rfl (pg_tup rfl (pgs_cons (pg_name (i := 4) sc_check_notes.nd rfl (by first | exact Or.inl rfl | exact Or.inr rfl)) (pgs_cons (pg_name (i := 5) sc_check_notes.nd rfl (by first | exact Or.inl rfl | exact Or.inr rfl)) pgs_nil))) (gok_tup (gsok_cons gok_name (gsok_cons gok_name gsok_nil))) (prAll rfl))
  (jb_one (js_ite (jt_not (jt_val (je_call (ok_is_note T) (hr.mono (by decide)) (by rfl) T.g_is_note__is_note_which T.F_is_note.kp T.B_is_note .nil pass0 (fun _ _ => rfl) (ja_cons (jo_var (pv 0)) (ja_cons (jo_var (pv 5)) ja_nil))))) (jb_one js_never)
  jb_nil)))))) fun ds R h => h.run
theorem ok_rests_of (T : Tx K mg) : FnOk P w K mg base CX0 4 T.a_rests_of T.fd_rests_of ["table", "song"] (spOf (nm T) (lift0 phi_rests_of)) :=
  fn_ok0 (g := b_rests_of) T.F_rests_of sc_rests_of (fun ds R h => by rw [h.len]; rfl) (fun cdv A outer s H E F0 hr => (jb_cons (js_drop (je_call (ok_check_voices T) (hr.mono (by decide)) (by rfl) T.g_check_voices__check_voices T.F_check_voices.kp T.B_check_voices .nil pass0 (fun _ _ => rfl) (ja_cons (jo_var (pv 0)) ja_nil)))
  (jb_cons (js_drop (je_call (ok_check_notes T) (hr.mono (by decide)) (by rfl) T.g_check_notes__check_notes T.F_check_notes.kp T.B_check_notes .nil pass0 (fun _ _ => rfl) (ja_cons (jo_var (pv 0)) (ja_cons (jo_var (pv 1)) (ja_cons (jo_e je_int) (ja_cons (jo_e (je_glob (v := .int 8) (by rfl) T.c_MOST_SONG.choose_spec ⟨_, rfl⟩ fun _ _ => rfl)) ja_nil))))))
  (jb_cons (js_asg (je_meth0 (c := 2) rfl (jo_var (pv 0)) T.cl_Table T.m_Table_allowed (ok_Table_allowed T) (hr.mono (by decide)) T.B_Table_allowed .nil pass0 (fun _ _ => rfl) (show ¬ _ ∈ NMs by decide +kernel)) (jg_of rfl (pg_name (i := 2) sc_rests_of.nd rfl (by first | exact Or.inl rfl | exact Or.inr rfl)) gok_name (prAll rfl)))
  (jb_one (js_ret (je_frz (jf_lc (own := [("rests", 3)]) (g := gName 3) rfl rfl sc_rests_of.nd (ji_seq rfl (je_call (ok_all_fours T) (hr.mono (by decide)) (by rfl) T.g_all_fours__all_fours T.F_all_fours.kp T.B_all_fours .nil pass0 (fun _ _ => rfl) (ja_cons (jo_e (je_callB (cd_len rfl) (by rfl) T.b_len (by decide +kernel) (ja_cons (jo_var (pv 1)) ja_nil))) ja_nil))) (blkOk_by (N := N_rests_of) (sc := defScope s_rests_of) (by decide +kernel)) (fun _ _ _ _ _ => (pg_name (i := 3) sc_rests_of.nd rfl (by first | exact Or.inl rfl | exact Or.inr rfl))) gok_name (prAll rfl) (fun _ _ _ _ _ _ _ => (jts_one (jt_val (je_call (ok_rests_fit T) (hr.mono (by decide)) (by rfl) T.g_rests_fit__rests_fit T.F_rests_fit.kp T.B_rests_fit .nil pass0 (fun _ _ => rfl) (ja_cons (jo_var (pv 2)) (ja_cons (jo_var (pv 1)) (ja_cons (jo_var (pv 3)) ja_nil))))))) (fun _ _ _ _ _ _ _ => (je_var (pv 3))))))))))) fun ds R h => h.run
theorem ok__law_mixed (T : Tx K mg) : FnOk P w K mg base CX0 2 T.a__law_mixed T.fd__law_mixed ["_law_source", "_law_some"] (spOf (nm T) (lift1 phi__law_mixed)) :=
  fn_ok1 (g := b__law_mixed) T.F__law_mixed sc__law_mixed (fun c ds R h => by rw [h.len]; rfl) (fun cdv A outer s H E F0 a hr => (jb_cons (js_asgF (jf_list rfl (by rfl) T.b_list (jo_var (pv 1))) (pg_name (i := 2) sc__law_mixed.nd rfl (by first | exact Or.inl rfl | exact Or.inr rfl)) rfl)
  (jb_cons (js_asgF (jf_lst jv_nil) (pg_name (i := 3) sc__law_mixed.nd rfl (by first | exact Or.inl rfl | exact Or.inr rfl)) rfl)
  (jb_cons (js_while PassesOwn.never (jt_cmp (bd_ne rfl hr.units) (jo_var (pv 2)) (jo_e (je_frz (jf_lst jv_nil))) (nomark _)) (jb_one (js_own om_append PySem.F.plainAttrs_list PySem.F.slot_list_append PySem.F.type_list_append (pv 3) (jv_cons (je_popAt (pv 2) (je_call (ok__law_next T) (hr.mono (by decide)) (by rfl) T.g__law_next___law_next T.F__law_next.kp T.B__law_next .nil pass0 (fun _ _ => rfl) (ja_cons (jo_var (pv 0)) (ja_cons (jo_e (je_callB (cd_len rfl) (by rfl) T.b_len (by decide +kernel) (ja_cons (jo_var (pv 2)) ja_nil))) ja_nil)))) jv_nil))))
  (jb_one (js_retOwn (pv 3) rfl)))))) fun c ds R h => h.run
theorem ok_law (T : Tx K mg) : FnA noG P w K mg base 7 T.a_law T.fd_law ["_law_script"] (spOf (nm T) (lift0 phi_law)) :=
  fn_okG (g := b_law) T.F_law sc_law (fun ds R h => by rw [h.len]; rfl) (fun cdv A outer s H E F0 hg hr => (jb_cons (js_for PassesOwn.never rfl (ji_seq rfl (je_op (bd_add (by rfl)) (jo_e (je_frz (jf_lst (jv_cons (je_call (ok__law_cell_at T) (hr.mono (by decide)) (by rfl) T.g__law_cell_at___law_cell_at T.F__law_cell_at.kp T.B__law_cell_at .nil pass0 (fun _ _ => rfl) (ja_cons (jo_var (pv 0)) (ja_cons (jo_e je_int) ja_nil))) jv_nil)))) (jo_e (je_sl rfl (jo_var (pv 0)) (jp_some je_int) (jp_some je_int))))) (jg_of rfl (pg_name (i := 1) sc_law.nd rfl (by first | exact Or.inl rfl | exact Or.inr rfl)) gok_name (prAll rfl))
  (jb_seg (n := 7) (fun F0 H0 => (sg_cons (js_asgF (jf_call (ok__law_source_of T) (hr.mono (by decide)) (by rfl) T.g__law_source_of___law_source_of T.F__law_source_of.kp T.B__law_source_of .nil pass0 (fun _ _ => rfl) (ja_cons (jo_var (pv 1)) ja_nil)) (pg_name (i := 2) sc_law.nd rfl (by first | exact Or.inl rfl | exact Or.inr rfl)) rfl)
  (sg_cons (js_asg (je_call (ok__law_pairs T) (hr.mono (by decide)) (by rfl) T.g__law_pairs___law_pairs T.F__law_pairs.kp T.B__law_pairs .nil pass0 (fun _ _ => rfl) (ja_cons (jo_var (pv 2)) ja_nil)) (jg_of rfl (pg_tup rfl (pgs_cons (pg_name (i := 12) sc_law.nd rfl (by first | exact Or.inl rfl | exact Or.inr rfl)) (pgs_cons (pg_name (i := 13) sc_law.nd rfl (by first | exact Or.inl rfl | exact Or.inr rfl)) pgs_nil))) (gok_tup (gsok_cons gok_name (gsok_cons gok_name gsok_nil))) (prAll rfl)))
  (sg_cons (js_asg (je_make (c := 2) rfl T.mk_Table (ok_Table__init_ T) (hr.mono (by decide)) (by rfl) T.gC_Table T.B_Table__init_ pass0 (jv_cons (je_var (pv 12)) (jv_cons je_int (jv_cons (je_frz (jf_revL (jo_e (je_callTy (cd_list rfl) (by rfl) T.b_list (by decide +kernel) (ja_cons (jo_var (pv 13)) ja_nil))))) jv_nil)))) (jg_of rfl (pg_name (i := 3) sc_law.nd rfl (by first | exact Or.inl rfl | exact Or.inr rfl)) gok_name (prAll rfl)))
  (sg_cons (js_asg (je_op (bd_add (by rfl)) (jo_e je_int) (jo_e (je_call (ok__law_next T) (hr.mono (by decide)) (by rfl) T.g__law_next___law_next T.F__law_next.kp T.B__law_next .nil pass0 (fun _ _ => rfl) (ja_cons (jo_var (pv 2)) (ja_cons (jo_e je_int) ja_nil))))) (jg_of rfl (pg_name (i := 4) sc_law.nd rfl (by first | exact Or.inl rfl | exact Or.inr rfl)) gok_name (prAll rfl)))
  (sg_cons (js_asgF (jf_lst jv_nil) (pg_name (i := 5) sc_law.nd rfl (by first | exact Or.inl rfl | exact Or.inr rfl)) rfl)
  (sg_cons (js_for PassesOwn.never rfl (ji_rangeA1 (by rfl) T.b_range (je_op (bd_add (by rfl)) (jo_e je_int) (jo_e (je_call (ok__law_next T) (hr.mono (by decide)) (by rfl) T.g__law_next___law_next T.F__law_next.kp T.B__law_next .nil pass0 (fun _ _ => rfl) (ja_cons (jo_var (pv 2)) (ja_cons (jo_e (je_call (ok__law_one T) (hr.mono (by decide)) (by rfl) T.g__law_one___law_one T.F__law_one.kp T.B__law_one .nil pass0 (fun _ _ => rfl) (ja_cons (jo_var (pv 2)) (ja_cons (jo_e (je_frz (jf_lst (jv_cons je_int (jv_cons je_int (jv_cons je_int jv_nil)))))) ja_nil)))) ja_nil)))))) (jg_of rfl (pg_name (i := 6) sc_law.nd rfl (by first | exact Or.inl rfl | exact Or.inr rfl)) gok_name (prAll rfl))
  (jb_one (js_own om_append PySem.F.plainAttrs_list PySem.F.slot_list_append PySem.F.type_list_append (pv 5) (jv_cons (je_frz (jf_lc (own := [("_law_at", 17)]) (g := gName 17) rfl rfl sc_law.nd (ji_rangeA1 (by rfl) T.b_range (je_var (pv 4))) (blkOk_by (N := N_law) (sc := defScope s_law) (by decide +kernel)) (fun _ _ _ _ _ => (pg_name (i := 17) sc_law.nd rfl (by first | exact Or.inl rfl | exact Or.inr rfl))) gok_name (prAll rfl) (fun _ _ _ _ _ _ _ => jts_nil) (fun _ _ _ _ _ _ _ => (je_call (ok__law_next T) (hr.mono (by decide)) (by rfl) T.g__law_next___law_next T.F__law_next.kp T.B__law_next .nil pass0 (fun _ _ => rfl) (ja_cons (jo_var (pv 2)) (ja_cons (jo_var (pv 12)) ja_nil)))))) jv_nil))))
  (sg_cons (js_asgF (jf_cat (jo_var (pv 5)) (jo_e (je_sl rfl (jo_var (pv 5)) jp_no (jp_some (je_call (ok__law_next T) (hr.mono (by decide)) (by rfl) T.g__law_next___law_next T.F__law_next.kp T.B__law_next .nil pass0 (fun _ _ => rfl) (ja_cons (jo_var (pv 2)) (ja_cons (jo_e je_int) ja_nil))))))) (pg_name (i := 5) sc_law.nd rfl (by first | exact Or.inl rfl | exact Or.inr rfl)) rfl)
  sg_nil))))))))
  (jq_seg (n := 8) (fun F0 H0 => (sg_cons (js_asg (je_frz (jf_lc (own := [("_law_song", 15)]) (g := gName 15) rfl rfl sc_law.nd (ji_seq rfl (je_var (pv 5))) (blkOk_by (N := N_law) (sc := defScope s_law) (by decide +kernel)) (fun _ _ _ _ _ => (pg_name (i := 15) sc_law.nd rfl (by first | exact Or.inl rfl | exact Or.inr rfl))) gok_name (prAll rfl) (fun _ _ _ _ _ _ _ => jts_nil) (fun _ _ _ _ _ _ _ => (je_call (ok_rests_of T) (hr.mono (by decide)) (by rfl) T.g_rests_of__rests_of T.F_rests_of.kp T.B_rests_of .nil pass0 (fun _ _ => rfl) (ja_cons (jo_var (pv 3)) (ja_cons (jo_var (pv 15)) ja_nil)))))) (jg_of rfl (pg_name (i := 7) sc_law.nd rfl (by first | exact Or.inl rfl | exact Or.inr rfl)) gok_name (prAll rfl)))
  (sg_cons (js_setLc (i := 8) (own := [("_law_rests", 16)]) (g := gName 16) rfl rfl sc_law.nd rfl rfl rfl (sw_true rfl rfl rfl (by decide +kernel)) (ji_seq rfl (je_ix rfl (jo_var (pv 7)) (jo_e je_int) (fun _ _ => rfl))) (blkOk_by (N := N_law) (sc := defScope s_law) (by decide +kernel)) (fun _ _ _ _ _ => (pg_name (i := 16) sc_law.nd rfl (by first | exact Or.inl rfl | exact Or.inr rfl))) gok_name (prAll rfl) (fun _ _ _ _ _ _ _ => (jts_one (jt_val (je_callB (cd_all rfl rfl) (by rfl) T.b_all (by decide +kernel) (ja_cons (jo_e (je_frz (jf_lc (own := [("_law_others", 18)]) (g := gName 18) rfl rfl sc_law.nd (ji_seq rfl (je_var (pv 7))) (by exact blkOk_by (by rfl)) (fun _ _ _ _ _ => (pg_name (i := 18) sc_law.nd rfl (by first | exact Or.inl rfl | exact Or.inr rfl))) gok_name (prAll rfl) (fun _ _ _ _ _ _ _ => jts_nil) (fun _ _ _ _ _ _ _ => (je_cmp (bd_in rfl (room65 hr)) (jo_var (pv 16)) (jo_var (pv 18)) (by with_unfolding_all rfl)))))) ja_nil))))) (fun _ _ _ _ _ _ _ => (je_var (pv 16))))
  (sg_cons (js_asg (je_callB (cd_reprD rfl hg hr.units) (by rfl) T.b_repr (by decide +kernel) (ja_cons (jo_var (pv 5)) ja_nil)) (jg_of rfl (pg_name (i := 9) sc_law.nd rfl (by first | exact Or.inl rfl | exact Or.inr rfl)) gok_name (prAll rfl)))
  (sg_cons (js_asgF (jf_call (ok_rests_shared T) (hr.mono (by decide)) (by rfl) T.g_rests_shared__rests_shared T.F_rests_shared.kp T.B_rests_shared .nil pass0 (fun _ _ => rfl) (ja_cons (jo_var (pv 3)) (ja_cons (jo_var (pv 5)) ja_nil))) (pg_name (i := 10) sc_law.nd rfl (by first | exact Or.inl rfl | exact Or.inr rfl)) rfl)
  (sg_cons (js_ite (JW.jt (jw_or (jt_cmp (bd_ne rfl hr.units) (jo_var (pv 10)) (jo_var (pv 8)) (nomark _)) (jw_or1 (jt_cmp (bd_ne rfl hr.units) (jo_e (je_callB (cd_reprD rfl hg hr.units) (by rfl) T.b_repr (by decide +kernel) (ja_cons (jo_var (pv 5)) ja_nil))) (jo_var (pv 9)) (nomark _))))) (jb_one (js_ret je_bl))
  jb_nil)
  (sg_cons (js_own om_append PySem.F.plainAttrs_list PySem.F.slot_list_append PySem.F.type_list_append (pv 10) (jv_cons je_non jv_nil))
  (sg_cons (js_ite (jt_cmp (bd_ne rfl hr.units) (jo_e (je_callW0 (ok_rests_shared T) (hr.mono (by decide)) (by rfl) T.g_rests_shared__rests_shared T.F_rests_shared.kp T.KW_rests_shared_0_songs_table pass0 (jk_cons (je_call (ok__law_mixed T) (hr.mono (by decide)) (by rfl) T.g__law_mixed___law_mixed T.F__law_mixed.kp T.B__law_mixed .nil pass0 (fun _ _ => rfl) (ja_cons (jo_var (pv 2)) (ja_cons (jo_var (pv 5)) ja_nil))) (jk_cons (je_var (pv 3)) jk_nil)))) (jo_var (pv 8)) (nomark _)) (jb_one (js_ret je_bl))
  jb_nil)
  (sg_cons (js_for PassesOwn.never rfl (ji_rangeA2 (by rfl) T.b_range je_int (je_callB (cd_len rfl) (by rfl) T.b_len (by decide +kernel) (ja_cons (jo_var (pv 5)) ja_nil))) (jg_of rfl (pg_name (i := 11) sc_law.nd rfl (by first | exact Or.inl rfl | exact Or.inr rfl)) gok_name (prAll rfl))
  (jb_cons (js_asg (je_call (ok_rests_shared T) (hr.mono (by decide)) (by rfl) T.g_rests_shared__rests_shared T.F_rests_shared.kp T.B_rests_shared .nil pass0 (fun _ _ => rfl) (ja_cons (jo_var (pv 3)) (ja_cons (jo_e (je_sl rfl (jo_var (pv 5)) jp_no (jp_some (je_var (pv 11))))) ja_nil))) (jg_of rfl (pg_name (i := 14) sc_law.nd rfl (by first | exact Or.inl rfl | exact Or.inr rfl)) gok_name (prAll rfl)))
  (jb_one (js_ite (jt_cmp (bd_ne rfl hr.units) (jo_e (je_frz (jf_lc (own := [("_law_rests", 16)]) (g := gName 16) rfl rfl sc_law.nd (ji_seq rfl (je_var (pv 8))) (blkOk_by (N := N_law) (sc := defScope s_law) (by decide +kernel)) (fun _ _ _ _ _ => (pg_name (i := 16) sc_law.nd rfl (by first | exact Or.inl rfl | exact Or.inr rfl))) gok_name (prAll rfl) (fun _ _ _ _ _ _ _ => (jts_one (jt_cmp (bd_notIn rfl (room65 hr)) (jo_var (pv 16)) (jo_var (pv 14)) (by with_unfolding_all rfl)))) (fun _ _ _ _ _ _ _ => (je_var (pv 16)))))) (jo_e (je_frz (jf_lst jv_nil))) (nomark _)) (jb_one (js_ret je_bl))
  jb_nil))))
  sg_nil)))))))))
  (jq_set00 rfl (fun F0 H0 => (je_op bd_mod (jo_e (je_op (bd_add (by rfl)) (jo_e (je_ix rfl (jo_e (je_ix rfl (jo_var (pv 5)) (jo_e je_int) (fun _ _ => rfl))) (jo_e je_int) (fun _ _ => rfl))) (jo_e je_int))) (jo_var (pv 12)))) (pv 5) pe_int pe_int (jq_end (fun F0 H0 => (jb_cons (js_asg (je_frz (jf_lc (own := [("_law_song", 15)]) (g := gName 15) rfl rfl sc_law.nd (ji_seq rfl (je_var (pv 5))) (blkOk_by (N := N_law) (sc := defScope s_law) (by decide +kernel)) (fun _ _ _ _ _ => (pg_name (i := 15) sc_law.nd rfl (by first | exact Or.inl rfl | exact Or.inr rfl))) gok_name (prAll rfl) (fun _ _ _ _ _ _ _ => jts_nil) (fun _ _ _ _ _ _ _ => (je_call (ok_rests_of T) (hr.mono (by decide)) (by rfl) T.g_rests_of__rests_of T.F_rests_of.kp T.B_rests_of .nil pass0 (fun _ _ => rfl) (ja_cons (jo_var (pv 3)) (ja_cons (jo_var (pv 15)) ja_nil)))))) (jg_of rfl (pg_name (i := 7) sc_law.nd rfl (by first | exact Or.inl rfl | exact Or.inr rfl)) gok_name (prAll rfl)))
  (jb_cons (js_setLc (i := 8) (own := [("_law_rests", 16)]) (g := gName 16) rfl rfl sc_law.nd rfl rfl rfl (sw_true rfl rfl rfl (by decide +kernel)) (ji_seq rfl (je_ix rfl (jo_var (pv 7)) (jo_e je_int) (fun _ _ => rfl))) (blkOk_by (N := N_law) (sc := defScope s_law) (by decide +kernel)) (fun _ _ _ _ _ => (pg_name (i := 16) sc_law.nd rfl (by first | exact Or.inl rfl | exact Or.inr rfl))) gok_name (prAll rfl) (fun _ _ _ _ _ _ _ => (jts_one (jt_val (je_callB (cd_all rfl rfl) (by rfl) T.b_all (by decide +kernel) (ja_cons (jo_e (je_frz (jf_lc (own := [("_law_others", 18)]) (g := gName 18) rfl rfl sc_law.nd (ji_seq rfl (je_var (pv 7))) (by exact blkOk_by (by rfl)) (fun _ _ _ _ _ => (pg_name (i := 18) sc_law.nd rfl (by first | exact Or.inl rfl | exact Or.inr rfl))) gok_name (prAll rfl) (fun _ _ _ _ _ _ _ => jts_nil) (fun _ _ _ _ _ _ _ => (je_cmp (bd_in rfl (room65 hr)) (jo_var (pv 16)) (jo_var (pv 18)) (by with_unfolding_all rfl)))))) ja_nil))))) (fun _ _ _ _ _ _ _ => (je_var (pv 16))))
  (jb_one (js_ite (jt_cmp (bd_ne rfl hr.units) (jo_e (je_call (ok_rests_shared T) (hr.mono (by decide)) (by rfl) T.g_rests_shared__rests_shared T.F_rests_shared.kp T.B_rests_shared .nil pass0 (fun _ _ => rfl) (ja_cons (jo_var (pv 3)) (ja_cons (jo_var (pv 5)) ja_nil)))) (jo_var (pv 8)) (nomark _)) (jb_one (js_ret je_bl))
  jb_nil))))))))))
  (jb_one (js_ret je_bl)))) fun ds R h => h.run
end
end W

namespace W
open PySem PySem.Spec PyProof.Rows L2 DL
theorem fun_of {K : PySem.W.Frag} {x qual : Str} {st : Stmt} {kws : List (Str × V)} {f : Addr} {fd : FuncData} (F : FunD K x qual (defArgs st) (defBody st) (defScope st) [] kws f fd) : Fun K x qual st f fd := by
  obtain ⟨⟨oc, od, dV, kV, doc, pm, an, cdv, ct, osl, e, lk, hcd, hD, hK⟩, kp⟩ := F
  rcases hD with ⟨_, rfl⟩ | ⟨q, _⟩
  · exact ⟨⟨oc, od, kV, doc, pm, an, cdv, ct, osl, e, lk, hcd⟩, kp⟩
  · exact absurd rfl q
theorem neB_ok {K : PySem.W.Frag} {x : Str} (h : neB K x = true) : NeOf K (He.ga K x) := ⟨He.eqO_ok (Bool.and_eq_true_iff.mp h).1, of_decide_eq_true (Bool.and_eq_true_iff.mp h).2⟩
theorem facts {P : Program} {w : World} {K : PySem.W.Frag} {h : Heap} {mg : Str → Option Value} {f : Addr} (X : K.In h) (G : h.Ns mainGlobals mg) (hfa : mg ("law" : Str) = some (.ref f)) (c : He.SaysD fa fn K) (cx : ex K = true) :
    ∃ T : Tx K mg, f = T.a_law ∧ (∀ (s : Shared) (v : Value), BindsTo s T.fd_law ⟨[v], []⟩ [("_law_script", v)]) := by
  obtain ⟨fd__law_source_of, G__law_source_of⟩ := c.def_ 0 (d := d__law_source_of) rfl
  have F__law_source_of : Fun K "_law_source_of" "_law_source_of" s__law_source_of (He.fAd K d__law_source_of.at_) fd__law_source_of := fun_of G__law_source_of
  obtain ⟨fd__law_next, G__law_next⟩ := c.def_ 1 (d := d__law_next) rfl
  have F__law_next : Fun K "_law_next" "_law_next" s__law_next (He.fAd K d__law_next.at_) fd__law_next := fun_of G__law_next
  obtain ⟨fd__law_one, G__law_one⟩ := c.def_ 2 (d := d__law_one) rfl
  have F__law_one : Fun K "_law_one" "_law_one" s__law_one (He.fAd K d__law_one.at_) fd__law_one := fun_of G__law_one
  obtain ⟨fd__law_pairs, G__law_pairs⟩ := c.def_ 3 (d := d__law_pairs) rfl
  have F__law_pairs : Fun K "_law_pairs" "_law_pairs" s__law_pairs (He.fAd K d__law_pairs.at_) fd__law_pairs := fun_of G__law_pairs
  obtain ⟨fd_is_whole, G_is_whole⟩ := c.def_ 4 (d := d_is_whole) rfl
  have F_is_whole : Fun K "is_whole" "is_whole" s_is_whole (He.fAd K d_is_whole.at_) fd_is_whole := fun_of G_is_whole
  obtain ⟨fd_is_note_2, G_is_note_2⟩ := c.def_ 5 (d := d_is_note_2) rfl
  have F_is_note_2 : Fun K "is_note" "is_note" s_is_note_2 (He.fAd K d_is_note_2.at_) fd_is_note_2 := fun_of G_is_note_2
  obtain ⟨fd_is_chord, G_is_chord⟩ := c.def_ 6 (d := d_is_chord) rfl
  have F_is_chord : Fun K "is_chord" "is_chord" s_is_chord (He.fAd K d_is_chord.at_) fd_is_chord := fun_of G_is_chord
  obtain ⟨fd_check_chords, G_check_chords⟩ := c.def_ 7 (d := d_check_chords) rfl
  have F_check_chords : Fun K "check_chords" "check_chords" s_check_chords (He.fAd K d_check_chords.at_) fd_check_chords := fun_of G_check_chords
  obtain ⟨fd_Table__init_, G_Table__init_⟩ := c.def_ 8 (d := d_Table__init_) rfl
  have F_Table__init_ : Fun K "__init__" "Table.__init__" s_Table__init_ (He.fAd K d_Table__init_.at_) fd_Table__init_ := fun_of G_Table__init_
  obtain ⟨fd_Table_voices, G_Table_voices⟩ := c.def_ 9 (d := d_Table_voices) rfl
  have F_Table_voices : Fun K "voices" "Table.voices" s_Table_voices (He.fAd K d_Table_voices.at_) fd_Table_voices := fun_of G_Table_voices
  obtain ⟨fd_check_voices, G_check_voices⟩ := c.def_ 10 (d := d_check_voices) rfl
  have F_check_voices : Fun K "check_voices" "check_voices" s_check_voices (He.fAd K d_check_voices.at_) fd_check_voices := fun_of G_check_voices
  obtain ⟨fd_Table_allowed, G_Table_allowed⟩ := c.def_ 11 (d := d_Table_allowed) rfl
  have F_Table_allowed : Fun K "allowed" "Table.allowed" s_Table_allowed (He.fAd K d_Table_allowed.at_) fd_Table_allowed := fun_of G_Table_allowed
  obtain ⟨fd_all_fours, G_all_fours⟩ := c.def_ 12 (d := d_all_fours) rfl
  have F_all_fours : Fun K "all_fours" "all_fours" s_all_fours (He.fAd K d_all_fours.at_) fd_all_fours := fun_of G_all_fours
  obtain ⟨fd_rests_fit, G_rests_fit⟩ := c.def_ 13 (d := d_rests_fit) rfl
  have F_rests_fit : Fun K "rests_fit" "rests_fit" s_rests_fit (He.fAd K d_rests_fit.at_) fd_rests_fit := fun_of G_rests_fit
  obtain ⟨fd_Table_notes, G_Table_notes⟩ := c.def_ 14 (d := d_Table_notes) rfl
  have F_Table_notes : Fun K "notes" "Table.notes" s_Table_notes (He.fAd K d_Table_notes.at_) fd_Table_notes := fun_of G_Table_notes
  obtain ⟨fd_is_note, G_is_note⟩ := c.def_ 15 (d := d_is_note) rfl
  have F_is_note : Fun K "is_note" "is_note" s_is_note (He.fAd K d_is_note.at_) fd_is_note := fun_of G_is_note
  obtain ⟨fd_rests_shared, G_rests_shared⟩ := c.def_ 16 (d := d_rests_shared) rfl
  have F_rests_shared : Fun K "rests_shared" "rests_shared" s_rests_shared (He.fAd K d_rests_shared.at_) fd_rests_shared := fun_of G_rests_shared
  obtain ⟨fd__law_cell_at, G__law_cell_at⟩ := c.def_ 17 (d := d__law_cell_at) rfl
  have F__law_cell_at : Fun K "_law_cell_at" "_law_cell_at" s__law_cell_at (He.fAd K d__law_cell_at.at_) fd__law_cell_at := fun_of G__law_cell_at
  obtain ⟨fd_check_notes, G_check_notes⟩ := c.def_ 18 (d := d_check_notes) rfl
  have F_check_notes : Fun K "check_notes" "check_notes" s_check_notes (He.fAd K d_check_notes.at_) fd_check_notes := fun_of G_check_notes
  obtain ⟨fd_rests_of, G_rests_of⟩ := c.def_ 19 (d := d_rests_of) rfl
  have F_rests_of : Fun K "rests_of" "rests_of" s_rests_of (He.fAd K d_rests_of.at_) fd_rests_of := fun_of G_rests_of
  obtain ⟨fd__law_mixed, G__law_mixed⟩ := c.def_ 20 (d := d__law_mixed) rfl
  have F__law_mixed : Fun K "_law_mixed" "_law_mixed" s__law_mixed (He.fAd K d__law_mixed.at_) fd__law_mixed := fun_of G__law_mixed
  obtain ⟨fd_law, G_law⟩ := c.def_ 21 (d := d_law) rfl
  have F_law : Fun K "law" "law" s_law (He.fAd K d_law.at_) fd_law := fun_of G_law
  have e := hfa.symm.trans (He.glo_ok X G (c.fact 20 (f := .glo "law") rfl))
  cases e
  refine ⟨{
    C_Table := He.ga K "Table", a__law_source_of := He.fAd K d__law_source_of.at_, fd__law_source_of := fd__law_source_of, a__law_next := He.fAd K d__law_next.at_, fd__law_next := fd__law_next, a__law_one := He.fAd K d__law_one.at_, fd__law_one := fd__law_one, a__law_pairs := He.fAd K d__law_pairs.at_, fd__law_pairs := fd__law_pairs, a_is_whole := He.fAd K d_is_whole.at_, fd_is_whole := fd_is_whole, a_is_note_2 := He.fAd K d_is_note_2.at_, fd_is_note_2 := fd_is_note_2, a_is_chord := He.fAd K d_is_chord.at_, fd_is_chord := fd_is_chord, a_check_chords := He.fAd K d_check_chords.at_, fd_check_chords := fd_check_chords, a_Table__init_ := He.fAd K d_Table__init_.at_, fd_Table__init_ := fd_Table__init_, a_Table_voices := He.fAd K d_Table_voices.at_, fd_Table_voices := fd_Table_voices, a_check_voices := He.fAd K d_check_voices.at_, fd_check_voices := fd_check_voices, a_Table_allowed := He.fAd K d_Table_allowed.at_, fd_Table_allowed := fd_Table_allowed, a_all_fours := He.fAd K d_all_fours.at_, fd_all_fours := fd_all_fours, a_rests_fit := He.fAd K d_rests_fit.at_, fd_rests_fit := fd_rests_fit, a_Table_notes := He.fAd K d_Table_notes.at_, fd_Table_notes := fd_Table_notes, a_is_note := He.fAd K d_is_note.at_, fd_is_note := fd_is_note, a_rests_shared := He.fAd K d_rests_shared.at_, fd_rests_shared := fd_rests_shared, a__law_cell_at := He.fAd K d__law_cell_at.at_, fd__law_cell_at := fd__law_cell_at, a_check_notes := He.fAd K d_check_notes.at_, fd_check_notes := fd_check_notes, a_rests_of := He.fAd K d_rests_of.at_, fd_rests_of := fd_rests_of, a__law_mixed := He.fAd K d__law_mixed.at_, fd__law_mixed := fd__law_mixed, a_law := He.fAd K d_law.at_, fd_law := fd_law,
    F__law_source_of := (F__law_source_of),
    g__law_source_of___law_source_of := He.glo_ok X G (c.fact 0 (f := .glo "_law_source_of") rfl),
    B__law_source_of := (F__law_source_of.binds fun _ _ _ _ _ _ us hl => match us, hl with | [_], _ => rfl),
    F__law_next := (F__law_next),
    g__law_next___law_next := He.glo_ok X G (c.fact 1 (f := .glo "_law_next") rfl),
    B__law_next := (F__law_next.binds fun _ _ _ _ _ _ us hl => match us, hl with | [_, _], _ => rfl),
    F__law_one := (F__law_one),
    g__law_one___law_one := He.glo_ok X G (c.fact 2 (f := .glo "_law_one") rfl),
    B__law_one := (F__law_one.binds fun _ _ _ _ _ _ us hl => match us, hl with | [_, _], _ => rfl),
    F__law_pairs := (F__law_pairs),
    g__law_pairs___law_pairs := He.glo_ok X G (c.fact 3 (f := .glo "_law_pairs") rfl),
    B__law_pairs := (F__law_pairs.binds fun _ _ _ _ _ _ us hl => match us, hl with | [_], _ => rfl),
    F_is_whole := (F_is_whole),
    g_is_whole__is_whole := He.glo_ok X G (c.fact 4 (f := .glo "is_whole") rfl),
    B_is_whole := (F_is_whole.binds fun _ _ _ _ _ _ us hl => match us, hl with | [_], _ => rfl),
    F_is_note_2 := (F_is_note_2),
    g_is_note_2__is_note_tables := He.glo_ok X G (c.fact 5 (f := .glo "is_note_tables") rfl),
    B_is_note_2 := (F_is_note_2.binds fun _ _ _ _ _ _ us hl => match us, hl with | [_, _], _ => rfl),
    F_is_chord := (F_is_chord),
    g_is_chord__is_chord := He.glo_ok X G (c.fact 6 (f := .glo "is_chord") rfl),
    B_is_chord := (F_is_chord.binds fun _ _ _ _ _ _ us hl => match us, hl with | [_, _, _], _ => rfl),
    F_check_chords := (F_check_chords),
    g_check_chords__check_chords := He.glo_ok X G (c.fact 7 (f := .glo "check_chords") rfl),
    B_check_chords := (F_check_chords.binds fun _ _ _ _ _ _ us hl => match us, hl with | [_, _, _], _ => rfl),
    F_Table__init_ := (F_Table__init_),
    B_Table__init_ := (F_Table__init_.binds fun _ _ _ _ _ _ us hl => match us, hl with | [_, _, _, _], _ => rfl),
    F_Table_voices := (F_Table_voices),
    B_Table_voices := (F_Table_voices.binds fun _ _ _ _ _ _ us hl => match us, hl with | [_], _ => rfl),
    m_Table_voices := He.meth_ok (c.fact 8 (f := .meth "Table" "voices") rfl),
    F_check_voices := (F_check_voices),
    g_check_voices__check_voices := He.glo_ok X G (c.fact 9 (f := .glo "check_voices") rfl),
    B_check_voices := (F_check_voices.binds fun _ _ _ _ _ _ us hl => match us, hl with | [_], _ => rfl),
    F_Table_allowed := (F_Table_allowed),
    B_Table_allowed := (F_Table_allowed.binds fun _ _ _ _ _ _ us hl => match us, hl with | [_], _ => rfl),
    m_Table_allowed := He.meth_ok (c.fact 10 (f := .meth "Table" "allowed") rfl),
    F_all_fours := (F_all_fours),
    g_all_fours__all_fours := He.glo_ok X G (c.fact 11 (f := .glo "all_fours") rfl),
    B_all_fours := (F_all_fours.binds fun _ _ _ _ _ _ us hl => match us, hl with | [_], _ => rfl),
    F_rests_fit := (F_rests_fit),
    g_rests_fit__rests_fit := He.glo_ok X G (c.fact 12 (f := .glo "rests_fit") rfl),
    B_rests_fit := (F_rests_fit.binds fun _ _ _ _ _ _ us hl => match us, hl with | [_, _, _], _ => rfl),
    F_Table_notes := (F_Table_notes),
    B_Table_notes := (F_Table_notes.binds fun _ _ _ _ _ _ us hl => match us, hl with | [_], _ => rfl),
    m_Table_notes := He.meth_ok (c.fact 13 (f := .meth "Table" "notes") rfl),
    F_is_note := (F_is_note),
    g_is_note__is_note_which := He.glo_ok X G (c.fact 14 (f := .glo "is_note_which") rfl),
    B_is_note := (F_is_note.binds fun _ _ _ _ _ _ us hl => match us, hl with | [_, _], _ => rfl),
    F_rests_shared := (F_rests_shared),
    g_rests_shared__rests_shared := He.glo_ok X G (c.fact 15 (f := .glo "rests_shared") rfl),
    B_rests_shared := (F_rests_shared.binds fun _ _ _ _ _ _ us hl => match us, hl with | [_, _], _ => rfl),
    F__law_cell_at := (F__law_cell_at),
    g__law_cell_at___law_cell_at := He.glo_ok X G (c.fact 16 (f := .glo "_law_cell_at") rfl),
    B__law_cell_at := (F__law_cell_at.binds fun _ _ _ _ _ _ us hl => match us, hl with | [_, _], _ => rfl),
    F_check_notes := (F_check_notes),
    g_check_notes__check_notes := He.glo_ok X G (c.fact 17 (f := .glo "check_notes") rfl),
    B_check_notes := (F_check_notes.binds fun _ _ _ _ _ _ us hl => match us, hl with | [_, _, _, _], _ => rfl),
    F_rests_of := (F_rests_of),
    g_rests_of__rests_of := He.glo_ok X G (c.fact 18 (f := .glo "rests_of") rfl),
    B_rests_of := (F_rests_of.binds fun _ _ _ _ _ _ us hl => match us, hl with | [_, _], _ => rfl),
    F__law_mixed := (F__law_mixed),
    g__law_mixed___law_mixed := He.glo_ok X G (c.fact 19 (f := .glo "_law_mixed") rfl),
    B__law_mixed := (F__law_mixed.binds fun _ _ _ _ _ _ us hl => match us, hl with | [_, _], _ => rfl),
    F_law := (F_law),
    g_law__law := He.glo_ok X G (c.fact 20 (f := .glo "law") rfl),
    B_law := (F_law.binds fun _ _ _ _ _ _ us hl => match us, hl with | [_], _ => rfl),
    cl_Table := He.cls_ok (c.fact 21 (f := .cls "Table") rfl),
    gC_Table := He.glo_ok X G (c.fact 22 (f := .glo "Table") rfl),
    mk_Table := He.mkr_ok (c.fact 23 (f := .mkr "Table") rfl),
    na_Table_scale := He.noat_ok (c.fact 24 (f := .noat "Table" "scale") rfl),
    na_Table_choir := He.noat_ok (c.fact 25 (f := .noat "Table" "choir") rfl),
    na_Table_chords := He.noat_ok (c.fact 26 (f := .noat "Table" "chords") rfl),
    b_all := He.free_ok X G (c.fact 27 (f := .free "all") rfl),
    b_bool := He.free_ok X G (c.fact 28 (f := .free "bool") rfl),
    b_enumerate := He.free_ok X G (c.fact 29 (f := .free "enumerate") rfl),
    b_int := He.free_ok X G (c.fact 30 (f := .free "int") rfl),
    b_isinstance := He.free_ok X G (c.fact 31 (f := .free "isinstance") rfl),
    b_len := He.free_ok X G (c.fact 32 (f := .free "len") rfl),
    b_list := He.free_ok X G (c.fact 33 (f := .free "list") rfl),
    b_range := He.free_ok X G (c.fact 34 (f := .free "range") rfl),
    b_repr := He.free_ok X G (c.fact 35 (f := .free "repr") rfl),
    b_sorted := He.free_ok X G (c.fact 36 (f := .free "sorted") rfl),
    b_tuple := He.free_ok X G (c.fact 37 (f := .free "tuple") rfl),
    c_MOST_SONG := He.int_ok X G (c.fact 38 (f := .int "MOST_SONG" 8) rfl),
    c_MOST_SONGS := He.int_ok X G (c.fact 39 (f := .int "MOST_SONGS" 12) rfl),
    c_MOST_NOTES := He.int_ok X G (c.fact 40 (f := .int "MOST_NOTES" 4) rfl),
    c_MOST_VOICES := He.int_ok X G (c.fact 41 (f := .int "MOST_VOICES" 4) rfl),
    KW_rests_shared_0_songs_table := (F_rests_shared.kw fun _ _ _ _ _ _ us ws h1 h2 => match us, ws, h1, h2 with | [], [_, _], _, _ => rfl) }, rfl, fun s v => FunD.bindsA (ps := ["_law_script"]) G_law (fun _ _ _ _ _ _ us hl => match us, hl with | [_], _ => rfl) s [v] rfl⟩
end W
open PySem PySem.W PySem.Calls PyProof.Rows
set_option maxHeartbeats 0 in
theorem PySem.Challenge.cw_leadbeats_k78_whole_rests_shared_by_roun_holds : PySem.Challenge.rw_leadbeats_k78_whole_rests_shared_by_roun.Holds := by
  w_on; o_law
  refine HandSHeadRun.head_any (r := OpenLaw.row PySem.Challenge.rw_leadbeats_k78_whole_rests_shared_by_roun) (q := view (OpenLaw.row PySem.Challenge.rw_leadbeats_k78_whole_rests_shared_by_roun).prog [34]) (H := W.hk) (ob := W.ob) (M := 3900) (loose := W.loose) (d := HandSHeadRun.topDef (OpenLaw.row PySem.Challenge.rw_leadbeats_k78_whole_rests_shared_by_roun).prog 34) (kwd := []) W.ob_eq
    (by kernel_rfl) (fun s => by kernel_rfl) W.run (by kernel_rfl) (by kernel_rfl) (by kernel_rfl) (by rfl) (by first | assumption | decide +kernel) (by decide +kernel) ⟨rfl, rfl, rfl, rfl, rfl, by decide +kernel⟩ ?hw ?hc
  case hw => w_witness2
  case hc =>
    refine DL.walk_ofA (l := PySem.Challenge.rw_leadbeats_k78_whole_rests_shared_by_roun) (n := 63) (k := 7) (x := "_law_script") rfl (by decide) (by kernel_rfl) ⟨rfl, by decide, by decide⟩ ?F
    intro w mg fa h Y G hmg0
    obtain ⟨K, KX, c⟩ := Y
    have hmg : mg ("law" : PySem.Str) = some (.ref fa) := by
      have e : (HandSHeadRun.topDef (OpenLaw.row PySem.Challenge.rw_leadbeats_k78_whole_rests_shared_by_roun).prog 34).name = ("law" : PySem.Str) := by kernel_rfl
      rw [← e]
      exact hmg0
    obtain ⟨T, rfl, hb⟩ := W.facts (P := (PySem.Challenge.rw_leadbeats_k78_whole_rests_shared_by_roun).prog) (w := w) KX G hmg c.t.d c.more
    exact ⟨K, T.fd_law, DL.spOf (W.nm T) (DL.lift0 W.phi_law), KX, hb, fun H a ns hl _ hS => DL.law_sp (W.nm T) hS (W.law_holds ns hl), fun base _ _ => W.ok_law T⟩

