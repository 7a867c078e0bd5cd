import PyProof.Rows.All
import Wide.All
import OpenK.AllK
import Wide.FinOn
import HandS.ForMost
import HandS.ForExc
import HandS.IsInst
import HandS.TupAny
import HandS.Deep
import HandS.Wide
import HandS.Zip
import HandS.SortInts
import HandS.Conv
import HandS.Flow
import HandS.Exc
import HandS.HeadHook1
import HandS.HeadHook4
import HandS.More
import HandS.TupMul
import HandS.SortKw
import HandS.Style
import HandS.Defaults
import HandS.Head0
import HandS.Head1
import HandS.Head2
import HandS.HeadEnd
import HandS.HeadHook2
import HandS.Iter
import HandS.DictTup
import HandS.ListItems
import HandS.SortRule
import KE.KDictPairs
import HandS.ExcOwn
import HandS.ExcIs
import HandS.ExcValue
import HandS.TryOnly
import HandS.TryMany
import HandS.Strs
import HandS.SetFor
import PyProof.Rows.SortShellAny
import PyProof.Rows.TupMore
import KE.GoesMore
import PyProof.Draws
import PyProof.EnumMake
import PyProof.CollectStr
import PyProof.ListNew
import PyProof.ReprRoads
import PyProof.ReprLen
import HandS.RaiseMore
import KE.GoesComp
import KE.GoesRaise
import HandS.Replace
import KE.KStateDown
import Lean
import PySem.Challenge.RW_onename_k49_texts_of_no_log
set_option Elab.async false
set_option linter.all false
set_option maxRecDepth 100000
set_option maxHeartbeats 4000000
namespace DL
open PySem PySem.Spec PyProof.Rows L2
abbrev TabL := List (Str × List Str)
def subE (y x : Str) : Bool := decide (y = x) || (decide (x = Str.ofString "HouseError") || decide (x = Str.ofString "ValueError"))
def exn1 (K : PySem.W.Frag) (y : Str) : Bool :=
  PySem.W.excIn K (He.ga K y) He.veBase "ValueError.__new__" && (PySem.W.keepIn K (.ref (He.ga K y)) && (decide (PySem.W.subIn K (.ref (He.ga K y)) (.type "BaseException") = some true) && (decide (PySem.W.typeIn K (.ref (He.ga K y)) = some (.type "type")) &&
  (decide (PySem.W.findIn K (.ref (He.ga K y)) "__getattribute__" = some (some (.builtin "BaseException.__getattribute__"))) && (decide (PySem.W.findIn K (.ref (He.ga K y)) "__getattr__" = some none) && (PySem.W.hasDictIn K (He.ga K y) &&
  (decide (PySem.W.findIn K (.ref (He.ga K y)) "__class__" = some (some (.builtin "object.__class__"))) && (decide (PySem.W.specialIn K (.builtin "object.__class__") "__get__" = some (some (.builtin "getset_descriptor.__get__"))) &&
  (decide (PySem.W.takesIn K (.builtin "object.__class__") = some true) && (decide (PySem.W.mroIn K (He.ga K y) (.type "object") = some true) && (decide (PySem.W.kitOne K (.ref (He.ga K y)) (.type "ValueError") = some true) && decide (PySem.W.kitOne K (.type "NoneType") (.ref (He.ga K y)) = some false))))))))))))
def exn2 (K : PySem.W.Frag) (y x : Str) : Bool := decide (PySem.W.kitOne K (.ref (He.ga K y)) (.ref (He.ga K x)) = some (subE y x)) && decide (PySem.W.exmOne K (.ref (He.ga K y)) (.ref (He.ga K x)) = some (subE y x))
def exnB (ys : List Str) (K : PySem.W.Frag) : Bool := ys.all fun y => He.Fa.ok K (.glo y) && (exn1 K y && ys.all fun x => exn2 K y x)
abbrev Y_all : List Str := [Str.ofString "HouseError", Str.ofString "NoDeed", Str.ofString "Down", Str.ofString "Up", Str.ofString "NoLetter", Str.ofString "Busy", Str.ofString "NoClaim", Str.ofString "TooMany", Str.ofString "NoText", Str.ofString "NoRow"]
def T_deeds : TabL := [(Str.ofString "claim", [Str.ofString "house", Str.ofString "name", Str.ofString "name"]), (Str.ofString "renew", [Str.ofString "house", Str.ofString "name"]), (Str.ofString "back", [Str.ofString "house", Str.ofString "name"]), (Str.ofString "carry", [Str.ofString "place"]), (Str.ofString "copy", [Str.ofString "place"]), (Str.ofString "lose", [Str.ofString "place"]), (Str.ofString "fall", [Str.ofString "house"]), (Str.ofString "rise", [Str.ofString "house"]), (Str.ofString "part", [Str.ofString "houses"]), (Str.ofString "heal", []), (Str.ofString "round", [])]
end DL
namespace DL
open PySem PySem.Spec PyProof.Rows L2
abbrev TabS := List (Str × Str)
def entsSB : List DictEntry → TabS → Bool
  | [], [] => true
  | e :: es, (k, y) :: r => (match e.key, e.val with
      | .str x _, .str z _ => decide (x = k) && decide (z = y)
      | _, _ => false) && entsSB es r
  | _, _ => false
def tabSB (x : Str) (tab : TabS) (K : PySem.W.Frag) : Bool := match K.lookup (He.ga K x) with
  | some ⟨_, _, .dict es _, _⟩ => entsSB es.toList tab
  | _ => false
def T_dtexts : TabS := [(Str.ofString "claim", Str.ofString "hnn"), (Str.ofString "renew", Str.ofString "hn"), (Str.ofString "back", Str.ofString "hn"), (Str.ofString "carry", Str.ofString "p"), (Str.ofString "copy", Str.ofString "p"), (Str.ofString "lose", Str.ofString "p"), (Str.ofString "fall", Str.ofString "h"), (Str.ofString "rise", Str.ofString "h"), (Str.ofString "part", Str.ofString "s"), (Str.ofString "heal", Str.ofString ""), (Str.ofString "round", Str.ofString "")]
def T_etexts : TabS := [(Str.ofString "ask", Str.ofString "nknk"), (Str.ofString "got", Str.ofString "nkhk"), (Str.ofString "no", Str.ofString "nkh"), (Str.ofString "back", Str.ofString "nk"), (Str.ofString "word", Str.ofString "nhkk"), (Str.ofString "free", Str.ofString "nhk")]
end DL
namespace Wk49
open PySem PySem.Spec PyProof.Rows L2 DL
def topS (i : Nat) : Stmt := PySem.Challenge.pw_onename_k49_texts_of_no_log.main.body.getD i (.Pass ⟨0, 0, 0, 0⟩)
abbrev s_is_whole : Stmt := topS 14
abbrev s_is_name : Stmt := topS 15
abbrev s_is_house : Stmt := topS 16
abbrev s_is_side : Stmt := topS 17
abbrev s_need : Stmt := topS 21
abbrev s_number_of : Stmt := topS 22
abbrev s_part_of : Stmt := topS 23
abbrev s_row_of : Stmt := topS 24
abbrev s_read_log : Stmt := topS 25
abbrev s__law_mixed : Stmt := topS 27
abbrev s__law_pot : Stmt := topS 28
abbrev s__law_take : Stmt := topS 29
abbrev s__law_name : Stmt := topS 30
abbrev s__law_number : Stmt := topS 31
abbrev s__law_any_deed : Stmt := topS 32
abbrev s__law_any_entry : Stmt := topS 33
abbrev s__law_shown : Stmt := topS 34
abbrev s__law_part : Stmt := topS 35
abbrev s__law_entry : Stmt := topS 36
abbrev s__law_read : Stmt := topS 37
abbrev s__law_line_bent : Stmt := topS 38
abbrev s__law_bent : Stmt := topS 39
abbrev s__law_right : Stmt := topS 40
abbrev s_law : Stmt := topS 41
def d_is_whole : He.DefD := ⟨("is_whole", none), "is_whole", "is_whole", defArgs s_is_whole, defBody s_is_whole, defScope s_is_whole, [], []⟩
def d_is_name : He.DefD := ⟨("is_name", none), "is_name", "is_name", defArgs s_is_name, defBody s_is_name, defScope s_is_name, [], []⟩
def d_is_house : He.DefD := ⟨("is_house", none), "is_house", "is_house", defArgs s_is_house, defBody s_is_house, defScope s_is_house, [], []⟩
def d_is_side : He.DefD := ⟨("is_side", none), "is_side", "is_side", defArgs s_is_side, defBody s_is_side, defScope s_is_side, [], []⟩
def d_need : He.DefD := ⟨("need", none), "need", "need", defArgs s_need, defBody s_need, defScope s_need, [], []⟩
def d_number_of : He.DefD := ⟨("number_of", none), "number_of", "number_of", defArgs s_number_of, defBody s_number_of, defScope s_number_of, [], []⟩
def d_part_of : He.DefD := ⟨("part_of", none), "part_of", "part_of", defArgs s_part_of, defBody s_part_of, defScope s_part_of, [], []⟩
def d_row_of : He.DefD := ⟨("row_of", none), "row_of", "row_of", defArgs s_row_of, defBody s_row_of, defScope s_row_of, [], []⟩
def d_read_log : He.DefD := ⟨("read_log", none), "read_log", "read_log", defArgs s_read_log, defBody s_read_log, defScope s_read_log, [], []⟩
def d__law_mixed : He.DefD := ⟨("_law_mixed", none), "_law_mixed", "_law_mixed", defArgs s__law_mixed, defBody s__law_mixed, defScope s__law_mixed, [], []⟩
def d__law_pot : He.DefD := ⟨("_law_pot", none), "_law_pot", "_law_pot", defArgs s__law_pot, defBody s__law_pot, defScope s__law_pot, [], []⟩
def d__law_take : He.DefD := ⟨("_law_take", none), "_law_take", "_law_take", defArgs s__law_take, defBody s__law_take, defScope s__law_take, [], []⟩
def d__law_name : He.DefD := ⟨("_law_name", none), "_law_name", "_law_name", defArgs s__law_name, defBody s__law_name, defScope s__law_name, [], []⟩
def d__law_number : He.DefD := ⟨("_law_number", none), "_law_number", "_law_number", defArgs s__law_number, defBody s__law_number, defScope s__law_number, [], []⟩
def d__law_any_deed : He.DefD := ⟨("_law_any_deed", none), "_law_any_deed", "_law_any_deed", defArgs s__law_any_deed, defBody s__law_any_deed, defScope s__law_any_deed, [], []⟩
def d__law_any_entry : He.DefD := ⟨("_law_any_entry", none), "_law_any_entry", "_law_any_entry", defArgs s__law_any_entry, defBody s__law_any_entry, defScope s__law_any_entry, [], []⟩
def d__law_shown : He.DefD := ⟨("_law_shown", none), "_law_shown", "_law_shown", defArgs s__law_shown, defBody s__law_shown, defScope s__law_shown, [], []⟩
def d__law_part : He.DefD := ⟨("_law_part", none), "_law_part", "_law_part", defArgs s__law_part, defBody s__law_part, defScope s__law_part, [], []⟩
def d__law_entry : He.DefD := ⟨("_law_entry", none), "_law_entry", "_law_entry", defArgs s__law_entry, defBody s__law_entry, defScope s__law_entry, [], []⟩
def d__law_read : He.DefD := ⟨("_law_read", none), "_law_read", "_law_read", defArgs s__law_read, defBody s__law_read, defScope s__law_read, [], []⟩
def d__law_line_bent : He.DefD := ⟨("_law_line_bent", none), "_law_line_bent", "_law_line_bent", defArgs s__law_line_bent, defBody s__law_line_bent, defScope s__law_line_bent, [], []⟩
def d__law_bent : He.DefD := ⟨("_law_bent", none), "_law_bent", "_law_bent", defArgs s__law_bent, defBody s__law_bent, defScope s__law_bent, [], []⟩
def d__law_right : He.DefD := ⟨("_law_right", none), "_law_right", "_law_right", defArgs s__law_right, defBody s__law_right, defScope s__law_right, [], []⟩
def d_law : He.DefD := ⟨("law", none), "law", "law", defArgs s_law, defBody s_law, defScope s_law, [], []⟩
def fn : List He.DefD := [d_is_whole, d_is_name, d_is_house, d_is_side, d_need, d_number_of, d_part_of, d_row_of, d_read_log, d__law_mixed, d__law_pot, d__law_take, d__law_name, d__law_number, d__law_any_deed, d__law_any_entry, d__law_shown, d__law_part, d__law_entry, d__law_read, d__law_line_bent, d__law_bent, d__law_right, d_law]
def fa : List He.Fa := [.glo "is_whole", .glo "is_name", .glo "is_house", .glo "is_side", .glo "need", .glo "number_of", .glo "part_of", .glo "row_of", .glo "read_log", .glo "_law_mixed", .glo "_law_pot", .glo "_law_take", .glo "_law_name", .glo "_law_number", .glo "_law_any_deed", .glo "_law_any_entry", .glo "_law_shown", .glo "_law_part", .glo "_law_entry", .glo "_law_read", .glo "_law_line_bent", .glo "_law_bent", .glo "_law_right", .glo "law", .str "LETTERS" "abcdefghijklmnopqrstuvwxyz", .int "LONGEST" 8, .str "FIGURES" "0123456789", .glo "ENTRIES", .free "len", .free "int", .free "bool", .free "str", .free "list", .free "tuple", .free "dict", .free "set", .free "range", .free "enumerate", .free "zip", .free "max", .free "min", .free "sum", .free "all", .free "any", .free "sorted", .free "isinstance", .free "repr", .free "ValueError"]
abbrev R : PySem.W.OpenRow := PySem.W.OpenLaw.row PySem.Challenge.rw_onename_k49_texts_of_no_log
def ts : List He.Tab := [(fun K => He.ga K "ENTRIES", T_etexts.map (·.1))]
def ex (K : PySem.W.Frag) : Bool := tabSB "ENTRIES" T_etexts K && exnB Y_all K
abbrev hk : PySem.W.Hook := He.hookX 4 fa fn ts [] ex
def ob (s : PySem.W.SharedT) : He.AlX := He.obsX 4 fa fn ts [] ex (HandSHeadRun.getT s)
theorem ob_eq (s : PySem.W.SharedT) : ob s = hk.obs s.abs := He.obsX_eq (HandSHeadRun.getT_eq s)
theorem ex_0 {K : PySem.W.Frag} (h : ex K = true) : tabSB "ENTRIES" T_etexts K = true := by unfold ex at h; simp only [Bool.and_eq_true] at h; exact h.1
theorem ex_E {K : PySem.W.Frag} (h : ex K = true) : exnB Y_all K = true := by unfold ex at h; simp only [Bool.and_eq_true] at h; exact h.2
def names : List Str := [Str.ofString "HouseError", Str.ofString "NoDeed", Str.ofString "Down", Str.ofString "Up", Str.ofString "NoLetter", Str.ofString "Busy", Str.ofString "NoClaim", Str.ofString "TooMany", Str.ofString "NoText", Str.ofString "NoRow", Str.ofString "LETTERS", Str.ofString "LONGEST", Str.ofString "is_whole", Str.ofString "is_name", Str.ofString "is_house", Str.ofString "is_side", Str.ofString "ENTRIES", Str.ofString "FIGURES", Str.ofString "need", Str.ofString "number_of", Str.ofString "part_of", Str.ofString "row_of", Str.ofString "read_log", Str.ofString "_law_mixed", Str.ofString "_law_pot", Str.ofString "_law_take", Str.ofString "_law_name", Str.ofString "_law_number", Str.ofString "_law_any_deed", Str.ofString "_law_any_entry", Str.ofString "_law_shown", Str.ofString "_law_part", Str.ofString "_law_entry", Str.ofString "_law_read", Str.ofString "_law_line_bent", Str.ofString "_law_bent", Str.ofString "_law_right"]
theorem runF_false (w : World) : HandSHeadRun.RunEq R (PySem.W.view R.prog [41]) hk ob 8000 names (w.withFollow "special-get-raises" false) := by
  intro os
  kernel_rfl
theorem runF_true (w : World) : HandSHeadRun.RunEq R (PySem.W.view R.prog [41]) hk ob 8000 names (w.withFollow "special-get-raises" true) := by
  intro os
  kernel_rfl
theorem runF (b : Bool) (w : World) : HandSHeadRun.RunEq R (PySem.W.view R.prog [41]) hk ob 8000 names (w.withFollow "special-get-raises" b) := by
  cases b
  · exact runF_false w
  · exact runF_true w
theorem run (w : World) : HandSHeadRun.RunEq R (PySem.W.view R.prog [41]) hk ob 8000 names w := by
  have e := World.withFollow_self w "special-get-raises"
  rw [← e]
  exact runF _ w
end Wk49
namespace DL
open PySem PySem.Spec PyProof.Rows L2
/-- data: tuples and lists that never change as values; a changed object by its address -/
inductive D where
  | non | bl (b : Bool) | int (i : Int) | str (x : Str) | tup (ds : List D) | lst (ds : List D) | kt (ds : List D) | kl (ds : List D) | ref (a : Addr) | ty (n : String) | exc (x : Str) | cls (x : Str)
  deriving Inhabited
/-- what stands at a changed object's address -/
inductive Cell where
  | lst (ds : List D) | dk (kvs : List (Key × D)) | dt (kvs : List (List Key × D)) | ins (C dx : Addr) (fs : List (Str × D)) | fk (od : Obj) (ws : List (Key × V)) (kvs : List (Key × D)) | ft (od : Obj) (ws : List (List Key × V)) (kvs : List (List Key × D))
abbrev Sto := Addr → Option Cell
def Sto.set (st : Sto) (a : Addr) (c : Cell) : Sto := fun b => if b = a then some c else st b
def Sto.keepOnly (st st0 : Sto) : Sto := fun a => if (st0 a).isSome then st a else none
@[simp] theorem Sto.set_same {st : Sto} {a : Addr} {c : Cell} : st.set a c a = some c := by unfold Sto.set; rw [if_pos rfl]
theorem Sto.set_ne {st : Sto} {a b : Addr} {c : Cell} (h : b ≠ a) : st.set a c b = st b := by unfold Sto.set; rw [if_neg h]
@[simp] theorem Sto.set_set {st : Sto} {a : Addr} {c c' : Cell} : (st.set a c).set a c' = st.set a c' := by
  funext b; unfold Sto.set; split <;> rfl
theorem Sto.set_self {st : Sto} {a : Addr} {c : Cell} (h : st a = some c) : st.set a c = st := by
  funext b; unfold Sto.set; split
  · rename_i e; rw [e, h]
  · rfl
@[simp] theorem Sto.keepOnly_self (st : Sto) : st.keepOnly st = st := by
  funext a; unfold Sto.keepOnly; split
  · rfl
  · rename_i h; cases e : st a with
    | none => rfl
    | some c => rw [e] at h; simp at h
theorem Sto.keepOnly_new {st st0 : Sto} {a : Addr} {c : Cell} (h : st0 a = none) : (st.set a c).keepOnly st0 = st.keepOnly st0 := by
  funext b; unfold Sto.keepOnly Sto.set
  by_cases e : b = a
  · subst e; simp [h]
  · simp [e]
theorem Sto.keepOnly_set {st st0 : Sto} {a : Addr} {c : Cell} (h : (st0 a).isSome) : (st.set a c).keepOnly st0 = (st.keepOnly st0).set a c := by
  funext b; unfold Sto.keepOnly Sto.set
  by_cases e : b = a
  · subst e; simp [h]
  · simp [e]
abbrev Bz := Addr → Prop
/-- m: what may change; b: what is being filled -/
structure Mu where
  m : Addr → Prop
  b : Addr → Prop
def Mu.has (M : Mu) (a : Addr) : Prop := M.m a ∨ M.b a
def mu (st : Sto) (B : Bz) : Mu := ⟨fun a => st a ≠ none, B⟩
def TupAt (H : Hp) (M : Mu) (a : Addr) (vs : List V) : Prop := ¬ M.has a ∧ H a = some (.tup vs)
def KTupAt (K : PySem.W.Frag) (a : Addr) (vs : List V) : Prop := ∃ (o : Obj) (its : Array Value) (n : Nat), K.lookup a = some o ∧ o.cls = .type "tuple" ∧ o.dict = none ∧ o.data = .seq its n ∧ its.size ≤ sizeLine ∧ Vals vs its.toList
/-- a tuple of the text, or one that is known to be plain -/
def PTupAt (H : Hp) (M : Mu) (a : Addr) (vs : List V) : Prop := ¬ M.has a ∧ ∃ o : Obj, H a = some (.frz o (.tup vs)) ∧ o.dict = none
def KT (K : PySem.W.Frag) (H : Hp) (M : Mu) (a : Addr) (vs : List V) : Prop := KTupAt K a vs ∨ PTupAt H M a vs
def KLstAt (K : PySem.W.Frag) (a : Addr) (vs : List V) : Prop := ∃ (o : Obj) (its : Array Value) (n : Nat), K.lookup a = some o ∧ o.cls = .type "list" ∧ o.dict = none ∧ o.data = .seq its n ∧ its.size ≤ sizeLine ∧ Vals vs its.toList
def LstAt (H : Hp) (M : Mu) (a : Addr) (vs : List V) : Prop := ¬ M.has a ∧ Rd H a (.lst vs)
/-- an exception that was caught: an object of the class cls without a dict -/
def EO (cls : Value) (a : Addr) : HO := .ext fun h => ∃ (oe : Obj) (vs : Array Value), h.get? a = some oe ∧ Zc cls none oe ∧ oe.data = .fields vs
def ExcAt (K : PySem.W.Frag) (H : Hp) (M : Mu) (x : Str) (a : Addr) : Prop := ¬ M.has a ∧ H a = some (EO (.ref (He.ga K x)) a)
abbrev okS (x : Str) : Bool := PyData.strOk x
mutual
inductive Rep (K : PySem.W.Frag) (H : Hp) (M : Mu) : D → V → Prop
  | non : Rep K H M .non .non
  | bl (b : Bool) : Rep K H M (.bl b) (.bl b)
  | int (i : Int) : Rep K H M (.int i) (.int i)
  | str (x : Str) (h : okS x = true) : Rep K H M (.str x) (.str x)
  | ref (a : Addr) : Rep K H M (.ref a) (.ref a)
  | ty (n : String) : Rep K H M (.ty n) (.ty n)
  | exc {x : Str} {a : Addr} : ExcAt K H M x a → Rep K H M (.exc x) (.ref a)
  | cls (x : Str) : Rep K H M (.cls x) (.ref (He.ga K x))
  | tup {a : Addr} {vs : List V} {ds : List D} : TupAt H M a vs → RepL K H M ds vs → ds.length ≤ sizeLine → Rep K H M (.tup ds) (.ref a)
  | kt {a : Addr} {vs : List V} {ds : List D} : KT K H M a vs → RepL K H M ds vs → ds.length ≤ sizeLine → Rep K H M (.kt ds) (.ref a)
  | kl {a : Addr} {vs : List V} {ds : List D} : (LstAt H M a vs ∨ KLstAt K a vs) → RepL K H M ds vs → ds.length ≤ sizeLine → Rep K H M (.kl ds) (.ref a)
  | lst {a : Addr} {vs : List V} {ds : List D} : LstAt H M a vs → RepL K H M ds vs → ds.length ≤ sizeLine → Rep K H M (.lst ds) (.ref a)
inductive RepL (K : PySem.W.Frag) (H : Hp) (M : Mu) : List D → List V → Prop
  | nil : RepL K H M [] []
  | cons {d : D} {v : V} {ds : List D} {vs : List V} : Rep K H M d v → RepL K H M ds vs → RepL K H M (d :: ds) (v :: vs)
end
/-- what was tracked and not to be changed stands, and is still not to be changed -/
structure Ext (H : Hp) (M : Mu) (H' : Hp) (M' : Mu) : Prop where
  kp : ∀ a o, H a = some o → ¬ M.m a → H' a = some o ∧ ¬ M'.m a
  bz : ∀ a, H a ≠ none → M'.b a → M.b a
  tr : ∀ a, H a ≠ none → H' a ≠ none
section
variable {K : PySem.W.Frag} {H H' H1 H2 : Hp} {M M' M1 M2 : Mu} {a : Addr} {vs : List V} {ds es : List D} {d : D} {v : V}
theorem Ext.refl : Ext H M H M := ⟨fun _ _ h n => ⟨h, n⟩, fun _ _ h => h, fun _ h => h⟩
theorem Ext.trans (x : Ext H M H1 M1) (y : Ext H1 M1 H2 M2) : Ext H M H2 M2 :=
  ⟨fun a o h n => y.kp a o (x.kp a o h n).1 (x.kp a o h n).2, fun a h m => x.bz a h (y.bz a (x.tr a h) m), fun a h => y.tr a (x.tr a h)⟩
theorem Ext.at_ {o : HO} (e : Ext H M H' M') (h : H a = some o) (n : ¬ M.has a) : H' a = some o ∧ ¬ M'.has a := by
  obtain ⟨h1, h2⟩ := e.kp a o h fun z => n (.inl z)
  refine ⟨h1, fun z => ?_⟩
  rcases z with z | z
  · exact h2 z
  · exact n (.inr (e.bz a (by rw [h]; exact fun z => nomatch z) z))
theorem TupAt.ext (h : TupAt H M a vs) (e : Ext H M H' M') : TupAt H' M' a vs := ⟨(e.at_ h.2 h.1).2, (e.at_ h.2 h.1).1⟩
theorem ExcAt.ext {x : Str} (h : ExcAt K H M x a) (e : Ext H M H' M') : ExcAt K H' M' x a := ⟨(e.at_ h.2 h.1).2, (e.at_ h.2 h.1).1⟩
theorem LstAt.ext (h : LstAt H M a vs) (e : Ext H M H' M') : LstAt H' M' a vs := by
  rcases h with ⟨n, h | ⟨o, h⟩⟩
  · exact ⟨(e.at_ h n).2, .inl (e.at_ h n).1⟩
  · exact ⟨(e.at_ h n).2, .inr ⟨o, (e.at_ h n).1⟩⟩
theorem TupAt.sq (h : TupAt H M a vs) : SqT K H a vs := .inl (.inl h.2)
theorem KLstAt.sq (h : KLstAt K a vs) : SqL K H a vs := .inr h
theorem KTupAt.sq (h : KTupAt K a vs) : SqT K H a vs := by
  obtain ⟨o, its, n, h1, h2, _, h3, h4, h5⟩ := h
  exact .inr ⟨o, its, n, h1, h2, h3, h4, h5⟩
theorem PTupAt.sq (h : PTupAt H M a vs) : SqT K H a vs := by
  obtain ⟨_, o, h1, _⟩ := h
  exact .inl (.inr ⟨o, h1⟩)
theorem KT.sq (h : KT K H M a vs) : SqT K H a vs := h.elim (fun h => h.sq) fun h => h.sq
theorem KT.ext (h : KT K H M a vs) (e : Ext H M H' M') : KT K H' M' a vs := h.imp id fun ⟨n, o, h1, h2⟩ => ⟨(e.at_ h1 n).2, o, (e.at_ h1 n).1, h2⟩
theorem KT.weak (h : KT K H M a vs) (e : ∀ a, M'.has a → M.has a) : KT K H M' a vs := h.imp id fun ⟨n, h1⟩ => ⟨fun m => n (e _ m), h1⟩
theorem LstAt.sq (h : LstAt H M a vs) : SqL K H a vs := .inl h.2
mutual
theorem Rep.ext (e : Ext H M H' M') : ∀ {d : D} {v : V}, Rep K H M d v → Rep K H' M' d v
  | _, _, .non => .non
  | _, _, .bl b => .bl b
  | _, _, .int i => .int i
  | _, _, .str x h => .str x h
  | _, _, .ref a => .ref a
  | _, _, .ty n => .ty n
  | _, _, .exc h => .exc (h.ext e)
  | _, _, .cls x => .cls x
  | _, _, .tup h r z => .tup (h.ext e) (RepL.ext e r) z
  | _, _, .lst h r z => .lst (h.ext e) (RepL.ext e r) z
  | _, _, .kt h r z => .kt (h.ext e) (RepL.ext e r) z
  | _, _, .kl h r z => .kl (h.imp (fun h => h.ext e) id) (RepL.ext e r) z
theorem RepL.ext (e : Ext H M H' M') : ∀ {ds : List D} {vs : List V}, RepL K H M ds vs → RepL K H' M' ds vs
  | _, _, .nil => .nil
  | _, _, .cons h t => .cons (Rep.ext e h) (RepL.ext e t)
end
mutual
theorem Rep.weak (e : ∀ a, M'.has a → M.has a) : ∀ {d : D} {v : V}, Rep K H M d v → Rep K H M' d v
  | _, _, .non => .non
  | _, _, .bl b => .bl b
  | _, _, .int i => .int i
  | _, _, .str x h => .str x h
  | _, _, .ref a => .ref a
  | _, _, .ty n => .ty n
  | _, _, .exc h => .exc ⟨fun m => h.1 (e _ m), h.2⟩
  | _, _, .cls x => .cls x
  | _, _, .tup h r z => .tup ⟨fun m => h.1 (e _ m), h.2⟩ (RepL.weak e r) z
  | _, _, .lst h r z => .lst ⟨fun m => h.1 (e _ m), h.2⟩ (RepL.weak e r) z
  | _, _, .kt h r z => .kt (h.weak e) (RepL.weak e r) z
  | _, _, .kl h r z => .kl (h.imp (fun h => ⟨fun m => h.1 (e _ m), h.2⟩) id) (RepL.weak e r) z
theorem RepL.weak (e : ∀ a, M'.has a → M.has a) : ∀ {ds : List D} {vs : List V}, RepL K H M ds vs → RepL K H M' ds vs
  | _, _, .nil => .nil
  | _, _, .cons h t => .cons (Rep.weak e h) (RepL.weak e t)
end
theorem RepL.length : ∀ {ds : List D} {vs : List V}, RepL K H M ds vs → vs.length = ds.length
  | _, _, .nil => rfl
  | _, _, .cons _ t => by rw [List.length_cons, List.length_cons, RepL.length t]
theorem RepL.get : ∀ {ds : List D} {vs : List V} {i : Nat} {d : D}, RepL K H M ds vs → ds[i]? = some d → ∃ v, vs[i]? = some v ∧ Rep K H M d v
  | _, _, _, _, .nil, e => by simp at e
  | _, _, 0, _, .cons r _, e => by simp at e; subst e; exact ⟨_, rfl, r⟩
  | _, _, i + 1, d, .cons _ t, e => by
    obtain ⟨u, h1, h2⟩ := RepL.get (i := i) (d := d) t (by simpa using e)
    exact ⟨u, by simpa using h1, h2⟩
theorem RepL.append : ∀ {ds es : List D} {vs ws : List V}, RepL K H M ds vs → RepL K H M es ws → RepL K H M (ds ++ es) (vs ++ ws)
  | _, _, _, _, .nil, s => s
  | _, _, _, _, .cons r t, s => .cons r (RepL.append t s)
theorem RepL.take : ∀ {ds : List D} {vs : List V} (n : Nat), RepL K H M ds vs → RepL K H M (ds.take n) (vs.take n)
  | _, _, 0, _ => .nil
  | _, _, _ + 1, .nil => .nil
  | _, _, n + 1, .cons r t => .cons r (RepL.take n t)
theorem RepL.drop : ∀ {ds : List D} {vs : List V} (n : Nat), RepL K H M ds vs → RepL K H M (ds.drop n) (vs.drop n)
  | _, _, 0, r => r
  | _, _, _ + 1, .nil => .nil
  | _, _, n + 1, .cons _ t => RepL.drop n t
theorem RepL.set {x : D} {u : V} (r : Rep K H M x u) : ∀ {ds : List D} {vs : List V} (i : Nat), RepL K H M ds vs → RepL K H M (ds.set i x) (vs.set i u)
  | _, _, _, .nil => .nil
  | _, _, 0, .cons _ t => .cons r t
  | _, _, i + 1, .cons q t => .cons q (RepL.set r i t)
theorem RepL.eraseIdx : ∀ {ds : List D} {vs : List V} (i : Nat), RepL K H M ds vs → RepL K H M (ds.eraseIdx i) (vs.eraseIdx i)
  | _, _, _, .nil => .nil
  | _, _, 0, .cons _ t => t
  | _, _, i + 1, .cons q t => .cons q (RepL.eraseIdx i t)
theorem RepL.reverse {ds : List D} {vs : List V} (r : RepL K H M ds vs) : RepL K H M ds.reverse vs.reverse := by
  induction ds generalizing vs with
  | nil => cases r; exact .nil
  | cons d ds ih =>
    cases r with
    | cons r t => rw [List.reverse_cons, List.reverse_cons]; exact (ih t).append (.cons r .nil)
theorem RepL.nil_iff {ds : List D} {vs : List V} (r : RepL K H M ds vs) : vs = [] ↔ ds = [] := by
  cases r <;> simp
theorem RepL.ints : ∀ {ns : List Int} {vs : List V}, RepL K H M (ns.map D.int) vs → vs = ns.map V.int
  | [], _, .nil => rfl
  | n :: ns, _, .cons (.int _) t => by rw [RepL.ints t]; rfl
theorem repL_ints : ∀ ns : List Int, RepL K H M (ns.map D.int) (ns.map V.int)
  | [] => .nil
  | n :: ns => .cons (.int n) (repL_ints ns)
theorem RepL.strs : ∀ {ns : List Str} {vs : List V}, RepL K H M (ns.map D.str) vs → vs = ns.map V.str ∧ ∀ x ∈ ns, okS x = true
  | [], _, .nil => ⟨rfl, fun _ h => nomatch h⟩
  | n :: ns, _, .cons (.str _ h) t => by
    obtain ⟨e, k⟩ := RepL.strs t
    exact ⟨by rw [e]; rfl, fun x hx => (List.mem_cons.mp hx).elim (fun z => z ▸ h) (k x)⟩
theorem repL_strs : ∀ ns : List Str, (∀ x ∈ ns, okS x = true) → RepL K H M (ns.map D.str) (ns.map V.str)
  | [], _ => .nil
  | n :: ns, h => .cons (.str n (h n List.mem_cons_self)) (repL_strs ns fun x hx => h x (List.mem_cons_of_mem _ hx))
end
/-- what a cell says of the object -/
def CellR (K : PySem.W.Frag) (H : Hp) (M : Mu) : Cell → HO → Prop
  | .lst ds, .lst vs => RepL K H M ds vs ∧ ds.length ≤ sizeLine
  | .dk kvs, .dK ws => ws.map (·.1) = kvs.map (·.1) ∧ RepL K H M (kvs.map (·.2)) (ws.map (·.2))
  | .dt kvs, .dT ws => ws.map (·.1) = kvs.map (·.1) ∧ RepL K H M (kvs.map (·.2)) (ws.map (·.2))
  | .ins C dx fs, .ins C' dx' ws => C = C' ∧ dx = dx' ∧ ws.map (·.1) = fs.map (·.1) ∧ RepL K H M (fs.map (·.2)) (ws.map (·.2))
  | .fk od us kvs, .frz ob (.dK ws) => (ob = od ∧ us = ws) ∧ ws.map (·.1) = kvs.map (·.1) ∧ RepL K H M (kvs.map (·.2)) (ws.map (·.2))
  | .ft od us kvs, .frz ob (.dT ws) => (ob = od ∧ us = ws) ∧ ws.map (·.1) = kvs.map (·.1) ∧ RepL K H M (kvs.map (·.2)) (ws.map (·.2))
  | _, _ => False
structure StoOk (K : PySem.W.Frag) (H : Hp) (B : Bz) (st : Sto) : Prop where
  at_ : ∀ a c, st a = some c → ∃ o, H a = some o ∧ CellR K H (mu st B) c o
  bu : ∀ a, B a → ∃ vs, H a = some (.lst vs)
  nb : ∀ a, B a → st a = none
section
variable {K : PySem.W.Frag} {H H' : Hp} {B : Bz} {st st' : Sto} {M M' : Mu} {a p : Addr} {c : Cell} {o : HO}
theorem CellR.ext (h : CellR K H M c o) (e : Ext H M H' M') : CellR K H' M' c o := by
  cases c <;> cases o <;> first | exact h.elim | skip
  · exact ⟨h.1.ext e, h.2⟩
  · exact ⟨h.1, h.2.ext e⟩
  · exact ⟨h.1, h.2.ext e⟩
  · exact ⟨h.1, h.2.1, h.2.2.1, h.2.2.2.ext e⟩
  · rename_i od u
    cases u <;> first | exact h.elim | exact ⟨h.1, h.2.1, h.2.2.ext e⟩
  · rename_i od u
    cases u <;> first | exact h.elim | exact ⟨h.1, h.2.1, h.2.2.ext e⟩
theorem StoOk.some_ (h : StoOk K H B st) (q : st a = some c) : H a ≠ none := by
  obtain ⟨o, e, _⟩ := h.at_ a c q
  rw [e]; exact fun z => nomatch z
theorem StoOk.none_ (h : StoOk K H B st) (e : H p = none) : st p = none := by
  cases q : st p with
  | none => rfl
  | some c => exact absurd e (h.some_ q)
theorem StoOk.fresh (h : StoOk K H B st) (e : H p = none) : ¬ (mu st B).has p := fun m => by
  rcases m with m | m
  · exact m (h.none_ e)
  · obtain ⟨_, q⟩ := h.bu p m
    rw [e] at q; cases q
theorem upd_tr (a : Addr) (h : H a ≠ none) : upd H p o a ≠ none := by
  by_cases z : a = p
  · subst z; rw [upd_same]; exact fun z => nomatch z
  · rw [upd_ne z]; exact h
theorem ext_new (e : H p = none) : Ext H M (upd H p o) M := ⟨fun a u h n => ⟨by rw [upd_ne (ne_of_none h e)]; exact h, n⟩, fun _ _ h => h, upd_tr⟩
/-- a new object is laid -/
theorem StoOk.new (h : StoOk K H B st) (e : H p = none) : StoOk K (upd H p o) B st :=
  ⟨fun a c q => by
    obtain ⟨u, e1, r⟩ := h.at_ a c q
    exact ⟨u, by rw [upd_ne (ne_of_none e1 e)]; exact e1, r.ext (ext_new e)⟩, fun a m => by
    obtain ⟨vs, q⟩ := h.bu a m
    exact ⟨vs, by rw [upd_ne (ne_of_none q e)]; exact q⟩, h.nb⟩
/-- a new object is laid, and filled: it is busy -/
theorem StoOk.busy {us : List V} (h : StoOk K H B st) (e : H p = none) : StoOk K (upd H p (.lst us)) (fun a => B a ∨ a = p) st ∧ Ext H (mu st B) (upd H p (.lst us)) (mu st fun a => B a ∨ a = p) := by
  have x : Ext H (mu st B) (upd H p (.lst us)) (mu st fun a => B a ∨ a = p) := ⟨fun a u q n => ⟨by rw [upd_ne (ne_of_none q e)]; exact q, n⟩, fun a q m => by
    rcases m with m | m
    · exact m
    · subst m; exact absurd e q, upd_tr⟩
  refine ⟨⟨fun a c q => ?_, fun a m => ?_, fun a m => ?_⟩, x⟩
  · obtain ⟨u, e1, r⟩ := h.at_ a c q
    exact ⟨u, by rw [upd_ne (ne_of_none e1 e)]; exact e1, r.ext x⟩
  · rcases m with m | m
    · obtain ⟨vs, q⟩ := h.bu a m
      exact ⟨vs, by rw [upd_ne (ne_of_none q e)]; exact q⟩
    · subst m; exact ⟨us, upd_same⟩
  · rcases m with m | m
    · exact h.nb a m
    · subst m; exact h.none_ e
/-- a busy object is written -/
theorem StoOk.fill {us : List V} (h : StoOk K H B st) (b : B p) (n : st p = none) : StoOk K (upd H p (.lst us)) B st ∧ ∀ {d v}, Rep K H (mu st B) d v → Rep K (upd H p (.lst us)) (mu st B) d v := by
  have rr : ∀ a, a ≠ p → upd H p (.lst us) a = H a := fun a z => upd_ne z
  have x : Ext H ⟨fun a => st a ≠ none ∨ a = p, B⟩ (upd H p (.lst us)) (mu st B) := ⟨fun a u q m => ⟨by rw [upd_ne fun z => m (.inr z)]; exact q, fun z => m (.inl z)⟩, fun _ _ m => m, upd_tr⟩
  have y : Ext H (mu st B) H ⟨fun a => st a ≠ none ∨ a = p, B⟩ → True := fun _ => trivial
  -- nothing leans on a busy object
  have rep : ∀ {d v}, Rep K H (mu st B) d v → Rep K H ⟨fun a => st a ≠ none ∨ a = p, B⟩ d v := fun {d v} r => Rep.weak (fun a m => by
    rcases m with (m | m) | m
    · exact .inl m
    · subst m; exact .inr b
    · exact .inr m) r
  have repL : ∀ {d v}, RepL K H (mu st B) d v → RepL K H ⟨fun a => st a ≠ none ∨ a = p, B⟩ d v := fun {d v} r => RepL.weak (fun a m => by
    rcases m with (m | m) | m
    · exact .inl m
    · subst m; exact .inr b
    · exact .inr m) r
  refine ⟨⟨fun a c q => ?_, fun a m => by
    by_cases z : a = p
    · subst z; exact ⟨us, upd_same⟩
    · rw [upd_ne z]; exact h.bu a m, h.nb⟩, fun {d v} r => (rep r).ext x⟩
  obtain ⟨u, e1, r⟩ := h.at_ a c q
  refine ⟨u, by rw [upd_ne fun z => by subst z; rw [n] at q; cases q]; exact e1, ?_⟩
  have r2 : CellR K H ⟨fun a => st a ≠ none ∨ a = p, B⟩ c u := by
    cases c <;> cases u <;> first | exact r.elim | skip
    · exact ⟨repL r.1, r.2⟩
    · exact ⟨r.1, repL r.2⟩
    · exact ⟨r.1, repL r.2⟩
    · exact ⟨r.1, r.2.1, r.2.2.1, repL r.2.2.2⟩
    · rename_i od u
      cases u <;> first | exact r.elim | exact ⟨r.1, r.2.1, repL r.2.2⟩
    · rename_i od u
      cases u <;> first | exact r.elim | exact ⟨r.1, r.2.1, repL r.2.2⟩
  exact r2.ext x
/-- a new object becomes a cell -/
theorem StoOk.put (h : StoOk K H B st) (e : H p = none) (k : CellR K H (mu st B) c o) : StoOk K (upd H p o) B (st.set p c) ∧ Ext H (mu st B) (upd H p o) (mu (st.set p c) B) := by
  have e2 : Ext H (mu st B) (upd H p o) (mu (st.set p c) B) := ⟨fun a u q n => ⟨by rw [upd_ne (ne_of_none q e)]; exact q, fun m => n (by
    have m : st.set p c a ≠ none := m
    rw [Sto.set_ne (ne_of_none q e)] at m; exact m)⟩, fun _ _ m => m, upd_tr⟩
  refine ⟨⟨fun a c' q => ?_, (h.new e).bu, fun a m => by
    rw [Sto.set_ne (fun z => by subst z; obtain ⟨_, q⟩ := h.bu _ m; rw [e] at q; cases q)]; exact h.nb a m⟩, e2⟩
  by_cases z : a = p
  · subst z
    rw [Sto.set_same] at q; cases q
    exact ⟨o, upd_same, k.ext e2⟩
  · rw [Sto.set_ne z] at q
    obtain ⟨u, e1, r⟩ := h.at_ a c' q
    exact ⟨u, by rw [upd_ne z]; exact e1, r.ext e2⟩
/-- a cell is written -/
theorem StoOk.write {c0 : Cell} (h : StoOk K H B st) (e : st p = some c0) (k : CellR K H (mu st B) c o) : StoOk K (upd H p o) B (st.set p c) ∧ Ext H (mu st B) (upd H p o) (mu (st.set p c) B) := by
  have e2 : Ext H (mu st B) (upd H p o) (mu (st.set p c) B) := ⟨fun a u q n => by
    have ne : a ≠ p := fun z => n (by subst z; show st a ≠ none; rw [e]; exact fun z => nomatch z)
    exact ⟨by rw [upd_ne ne]; exact q, fun m => n (by
      have m : st.set p c a ≠ none := m
      rw [Sto.set_ne ne] at m; exact m)⟩, fun _ _ m => m, upd_tr⟩
  refine ⟨⟨fun a c' q => ?_, fun a m => by rw [upd_ne (fun z => by subst z; rw [h.nb _ m] at e; cases e)]; exact h.bu a m, fun a m => by
    rw [Sto.set_ne (fun z => by subst z; rw [h.nb _ m] at e; cases e)]; exact h.nb a m⟩, e2⟩
  by_cases z : a = p
  · subst z
    rw [Sto.set_same] at q; cases q
    exact ⟨o, upd_same, k.ext e2⟩
  · rw [Sto.set_ne z] at q
    obtain ⟨u, e1, r⟩ := h.at_ a c' q
    exact ⟨u, by rw [upd_ne z]; exact e1, r.ext e2⟩
/-- cells are forgotten -/
theorem StoOk.drop (h : StoOk K H B st) (k : ∀ a c, st' a = some c → st a = some c) : StoOk K H B st' ∧ Ext H (mu st B) H (mu st' B) := by
  have e2 : Ext H (mu st B) H (mu st' B) := ⟨fun a u q n => ⟨q, fun m => n (by
    intro z
    have m : st' a ≠ none := m
    apply m
    cases q : st' a with
    | none => rfl
    | some c => rw [k a c q] at z; cases z)⟩, fun _ _ m => m, fun _ h => h⟩
  exact ⟨⟨fun a c q => let ⟨o, e1, r⟩ := h.at_ a c (k a c q); ⟨o, e1, r.ext e2⟩, h.bu, fun a m => by
    cases q : st' a with
    | none => rfl
    | some c =>
      have := k a c q
      rw [h.nb a m] at this
      cases this⟩, e2⟩
end
abbrev Env := List (Option D)
abbrev PoE := D → Sto → Prop
abbrev PoX := Str → Sto → Prop
abbrev WE := Env → Sto → PoX → PoE → Prop
abbrev WT := Env → Sto → PoX → (Bool → Sto → Prop) → Prop
abbrev WA := Env → Sto → PoX → (List D → Sto → Prop) → Prop
structure WEnds where
  nx : Env → Sto → Prop
  rt : PoE
  ex : PoX
  bk : Env → Sto → Prop := fun _ _ => False
  ct : Env → Sto → Prop := fun _ _ => False
abbrev WS := WEnds → Env → Sto → Prop
abbrev WF := List D → Sto → PoX → PoE → Prop
structure EnvOk (K : PySem.W.Frag) (H : Hp) (M : Mu) (e : Env) (σ : L2.St) : Prop where
  len : e.length = σ.length
  at_ : ∀ (i : Nat) (d : D), e[i]? = some (some d) → ∃ v, σ[i]? = some (some v) ∧ Rep K H M d v
theorem EnvOk.ext {K : PySem.W.Frag} {H H' : Hp} {M M' : Mu} {e : Env} {σ : L2.St} (h : EnvOk K H M e σ) (x : Ext H M H' M') : EnvOk K H' M' e σ :=
  ⟨h.len, fun i d q => let ⟨v, e1, r⟩ := h.at_ i d q; ⟨v, e1, r.ext x⟩⟩
theorem EnvOk.set {K : PySem.W.Frag} {H : Hp} {M : Mu} {e : Env} {σ : L2.St} {d : D} {v : V} (h : EnvOk K H M e σ) (i : Nat) (r : Rep K H M d v) : EnvOk K H M (e.set i (some d)) (σ.set i (some v)) :=
  ⟨by rw [List.length_set, List.length_set, h.len], fun j d' q => by
    by_cases z : j = i
    · subst z
      by_cases l : j < e.length
      · rw [List.getElem?_set_self l] at q
        cases q
        exact ⟨v, List.getElem?_set_self (by rw [← h.len]; exact l), r⟩
      · rw [List.getElem?_eq_none (by simpa using l)] at q; cases q
    · rw [List.getElem?_set_ne (Ne.symm z)] at q
      rw [List.getElem?_set_ne (Ne.symm z)]
      exact h.at_ j d' q⟩
/-- what is known of the state when a value has come -/
def PostE (K : PySem.W.Frag) (B : Bz) (H : Hp) (st : Sto) (Qd : PoE) (Q : VK) : Prop :=
  ∀ d st' v H', Qd d st' → Ext H (mu st B) H' (mu st' B) → StoOk K H' B st' → Rep K H' (mu st' B) d v → Q v H'
def PostX (K : PySem.W.Frag) (mg : Str → Option Value) (B : Bz) (H : Hp) (st : Sto) (Xd : PoX) (E : XK) : Prop :=
  ∀ x st' c H', Xd x st' → mg x = some c → Ext H (mu st B) H' (mu st' B) → StoOk K H' B st' → E c none H'
structure Sit (K : PySem.W.Frag) (B : Bz) (e : Env) (st : Sto) (σ : L2.St) (H : Hp) : Prop where
  env : EnvOk K H (mu st B) e σ
  sto : StoOk K H B st
theorem Sit.on {K : PySem.W.Frag} {B : Bz} {e : Env} {st st' : Sto} {σ : L2.St} {H H' : Hp} (s : Sit K B e st σ H) (x : Ext H (mu st B) H' (mu st' B)) (k : StoOk K H' B st') : Sit K B e st' σ H' := ⟨s.env.ext x, k⟩
theorem PostX.on {K : PySem.W.Frag} {mg : Str → Option Value} {B : Bz} {st st' : Sto} {H H' : Hp} {Xd : PoX} {E : XK} (p : PostX K mg B H st Xd E) (x : Ext H (mu st B) H' (mu st' B)) : PostX K mg B H' st' Xd E :=
  fun a s c H2 h m y k => p a s c H2 h m (x.trans y) k
theorem PostE.on {K : PySem.W.Frag} {B : Bz} {st st' : Sto} {H H' : Hp} {Qd : PoE} {Q : VK} (p : PostE K B H st Qd Q) (x : Ext H (mu st B) H' (mu st' B)) : PostE K B H' st' Qd Q :=
  fun d s v H2 h y k r => p d s v H2 h (x.trans y) k r
def tE (K : PySem.W.Frag) (mg : Str → Option Value) (E : XK) (m : WE) : TE := fun σ H Q => ∃ B e st Qd Xd, Sit K B e st σ H ∧ PostE K B H st Qd Q ∧ PostX K mg B H st Xd E ∧ m e st Xd Qd
def tT (K : PySem.W.Frag) (mg : Str → Option Value) (E : XK) (m : WT) : TT := fun σ H Q => ∃ B e st Qd Xd, Sit K B e st σ H ∧
  (∀ b st' H', Qd b st' → Ext H (mu st B) H' (mu st' B) → StoOk K H' B st' → Q b H') ∧ PostX K mg B H st Xd E ∧ m e st Xd Qd
structure EndsOk (K : PySem.W.Frag) (mg : Str → Option Value) (E : XK) (B : Bz) (H : Hp) (st : Sto) (W : WEnds) (D : Ends) : Prop where
  nx : ∀ e' st' σ' H', W.nx e' st' → Sit K B e' st' σ' H' → Ext H (mu st B) H' (mu st' B) → D.nx σ' H'
  rt : PostE K B H st W.rt D.rt
  ex : PostX K mg B H st W.ex E
  bk : ∀ e' st' σ' H', W.bk e' st' → Sit K B e' st' σ' H' → Ext H (mu st B) H' (mu st' B) → D.bk σ' H'
  ct : ∀ e' st' σ' H', W.ct e' st' → Sit K B e' st' σ' H' → Ext H (mu st B) H' (mu st' B) → D.ct σ' H'
theorem EndsOk.on {K : PySem.W.Frag} {mg : Str → Option Value} {E : XK} {B : Bz} {st st' : Sto} {H H' : Hp} {W : WEnds} {D : Ends} (p : EndsOk K mg E B H st W D) (x : Ext H (mu st B) H' (mu st' B)) : EndsOk K mg E B H' st' W D :=
  ⟨fun e s σ H2 h k y => p.nx e s σ H2 h k (x.trans y), p.rt.on x, p.ex.on x, fun e s σ H2 h k y => p.bk e s σ H2 h k (x.trans y), fun e s σ H2 h k y => p.ct e s σ H2 h k (x.trans y)⟩
def tS (K : PySem.W.Frag) (mg : Str → Option Value) (E : XK) (m : WS) : TS := fun D σ H => ∃ B e st W, Sit K B e st σ H ∧ EndsOk K mg E B H st W D ∧ m W e st
/-- a def's promise -/
def spF (K : PySem.W.Frag) (mg : Str → Option Value) (n : Nat) (F : WF) : Sp := fun vs H Q E => ∃ B ds st Qd Xd, vs.length = n ∧ StoOk K H B st ∧ RepL K H (mu st B) ds vs ∧ PostE K B H st Qd Q ∧ PostX K mg B H st Xd E ∧ F ds st Xd Qd
/-- another reading -/
theorem pe_imp {X : Cx} {e : Expr} {t t' : TE} (h : PE X e t) (i : ∀ σ H Q, t' σ H Q → t σ H Q) : PE X e t' := ⟨fun pins s σ H Q I q => h.run pins s σ H Q I (i _ _ _ q)⟩
theorem pt_imp {X : Cx} {e : Expr} {t t' : TT} (h : PT X e t) (i : ∀ σ H Q, t' σ H Q → t σ H Q) : PT X e t' := ⟨fun pins s σ H Q I q => h.run pins s σ H Q I (i _ _ _ q)⟩
theorem pa_imp {X : Cx} {e : List Expr} {t t' : TA} (h : PA X e t) (i : ∀ σ H Q, t' σ H Q → t σ H Q) : PA X e t' := ⟨fun p pins s σ H Q I q => h.run p pins s σ H Q I (i _ _ _ q)⟩
theorem ps_imp {X : Cx} {e : Stmt} {t t' : TS} (h : PS X e t) (i : ∀ D σ H, t' D σ H → t D σ H) : PS X e t' := ⟨fun pins s σ H Q I q => h.run pins s σ H Q I (i _ _ _ q)⟩
theorem pss_imp {X : Cx} {e : List Stmt} {t t' : TS} (h : PSs X e t) (i : ∀ D σ H, t' D σ H → t D σ H) : PSs X e t' := ⟨fun pins s σ H Q I q => h.run pins s σ H Q I (i _ _ _ q)⟩
end DL
namespace DL
open PySem PySem.Spec PyProof.Rows L2
def on {α : Type} (o : Option α) (k : α → Prop) : Prop := match o with | some a => k a | none => False
@[simp] theorem on_some {α : Type} {a : α} {k : α → Prop} : on (some a) k = k a := id rfl
@[simp] theorem on_none {α : Type} {k : α → Prop} : on none k = False := id rfl
theorem on_iff {α : Type} {o : Option α} {k : α → Prop} : on o k ↔ ∃ a, o = some a ∧ k a := by
  cases o with
  | none => simp
  | some a => simp
def cellL : Option Cell → Option (List D)
  | some (.lst ds) => some ds
  | _ => none
@[simp] theorem cellL_lst {ds : List D} : cellL (some (.lst ds)) = some ds := rfl
theorem cellL_iff {c : Option Cell} {ds : List D} : cellL c = some ds ↔ c = some (.lst ds) := by
  constructor
  · intro h
    unfold cellL at h
    split at h <;> cases h
    rfl
  · intro h; rw [h]; rfl
def lsOf (st : Sto) : D → Option (List D)
  | .lst ds => some ds
  | .ref a => cellL (st a)
  | _ => none
def tpOf : D → Option (List D)
  | .tup ds => some ds
  | .kt ds => some ds
  | _ => none
def lqOf (st : Sto) : D → Option (List D)
  | .kl ds => some ds
  | d => lsOf st d
def sqOf (st : Sto) (d : D) : Option (List D) := match tpOf d with | some ds => some ds | none => lqOf st d
@[simp] theorem sqOf_kl {st : Sto} {ds : List D} : sqOf st (.kl ds) = some ds := rfl
@[simp] theorem lsOf_lst {st : Sto} {ds : List D} : lsOf st (.lst ds) = some ds := rfl
@[simp] theorem sqOf_lst {st : Sto} {ds : List D} : sqOf st (.lst ds) = some ds := rfl
@[simp] theorem sqOf_tup {st : Sto} {ds : List D} : sqOf st (.tup ds) = some ds := rfl
@[simp] theorem sqOf_kt {st : Sto} {ds : List D} : sqOf st (.kt ds) = some ds := rfl
theorem lsOf_ref {st : Sto} {a : Addr} {ds : List D} (h : st a = some (.lst ds)) : lsOf st (.ref a) = some ds := cellL_iff.mpr h
theorem sqOf_ref {st : Sto} {a : Addr} {ds : List D} (h : st a = some (.lst ds)) : sqOf st (.ref a) = some ds := lsOf_ref h
mutual
def toPy : D → Option PyData
  | .non => some .none
  | .bl b => some (.bool b)
  | .int i => some (.int i)
  | .str x => some (.str x)
  | .tup ds => (toPyL ds).map .tuple
  | .kt ds => (toPyL ds).map .tuple
  | .lst ds => (toPyL ds).map .list
  | .kl _ => none
  | .ref _ => none
  | .ty _ => none
  | .exc _ => none
  | .cls _ => none
def toPyL : List D → Option (List PyData)
  | [] => some []
  | d :: ds => match toPy d, toPyL ds with | some p, some ps => some (p :: ps) | _, _ => none
end
/-- data; a changed list of data -/
def pyOf (st : Sto) : D → Option PyData
  | .ref a => (cellL (st a)).bind fun ds => (toPyL ds).map .list
  | d => toPy d
/-- a dict's key -/
def keyOf : D → Option Key
  | .int i => some (.inl i)
  | .str x => some (.inr x)
  | _ => none
def keysOf : List D → Option (List Key)
  | [] => some []
  | d :: ds => match keyOf d, keysOf ds with | some k, some ks => some (k :: ks) | _, _ => none
def valD {κ : Type} [DecidableEq κ] : List (κ × D) → κ → Option D
  | [], _ => none
  | (k, d) :: r, x => if k = x then some d else valD r x
section
variable {K : PySem.W.Frag} {H : Hp} {B : Bz} {M : Mu} {st : Sto} {a p : Addr} {vs : List V} {ds : List D} {d : D} {v : V}
theorem tp_of (r : Rep K H M d v) (e : tpOf d = some ds) : ∃ a vs, v = .ref a ∧ SqT K H a vs ∧ RepL K H M ds vs ∧ ds.length ≤ sizeLine := by
  cases r <;> cases e
  · rename_i h r z; exact ⟨_, _, rfl, h.sq, r, z⟩
  · rename_i h r z; exact ⟨_, _, rfl, h.sq, r, z⟩
theorem ls_of (k : StoOk K H B st) (r : Rep K H (mu st B) d v) (e : lsOf st d = some ds) : ∃ a vs, v = .ref a ∧ Rd H a (.lst vs) ∧ RepL K H (mu st B) ds vs ∧ ds.length ≤ sizeLine := by
  cases r <;> try cases e
  · rename_i a
    have q := cellL_iff.mp (show cellL (st a) = some ds from e)
    obtain ⟨o, e1, r1⟩ := k.at_ a _ q
    cases o <;> try exact r1.elim
    exact ⟨a, _, rfl, .inl e1, r1.1, r1.2⟩
  · rename_i h r z; exact ⟨_, _, rfl, h.2, r, z⟩
theorem lq_of (k : StoOk K H B st) (r : Rep K H (mu st B) d v) (e : lqOf st d = some ds) : ∃ a vs, v = .ref a ∧ SqL K H a vs ∧ RepL K H (mu st B) ds vs ∧ ds.length ≤ sizeLine := by
  unfold lqOf at e
  split at e
  · cases e
    cases r with
    | kl h r z => exact ⟨_, _, rfl, h.elim (fun h => h.sq) (fun h => h.sq), r, z⟩
  · obtain ⟨a, vs, e1, h, r2, z⟩ := ls_of k r e
    exact ⟨a, vs, e1, .inl h, r2, z⟩
theorem sq_of (k : StoOk K H B st) (r : Rep K H (mu st B) d v) (e : sqOf st d = some ds) : ∃ a vs, v = .ref a ∧ (SqL K H a vs ∨ SqT K H a vs) ∧ RepL K H (mu st B) ds vs ∧ ds.length ≤ sizeLine := by
  unfold sqOf at e
  cases q : tpOf d with
  | some es =>
    rw [q] at e; cases e
    obtain ⟨a, vs, e1, h, r2, z⟩ := tp_of r q
    exact ⟨a, vs, e1, .inr h, r2, z⟩
  | none =>
    rw [q] at e
    obtain ⟨a, vs, e1, h, r2, z⟩ := lq_of k r e
    exact ⟨a, vs, e1, .inl h, r2, z⟩
mutual
theorem Rep.dp : ∀ {d : D} {v : V} {p : PyData}, Rep K H M d v → toPy d = some p → Dp K H v p ∧ p.canLay0 = true
  | _, _, _, .non, e => by cases e; exact ⟨.non, rfl⟩
  | _, _, _, .bl b, e => by cases e; exact ⟨.bl b, rfl⟩
  | _, _, _, .int i, e => by cases e; exact ⟨.int i, rfl⟩
  | _, _, _, .str x h, e => by cases e; exact ⟨.str x, h⟩
  | _, _, _, .ref _, e => by cases e
  | _, _, _, .ty _, e => by cases e
  | _, _, _, .kl _ _ _, e => by cases e
  | _, _, p, .tup (ds := ds) h r z, e => by
    unfold toPy at e
    cases q : toPyL ds with
    | none => rw [q] at e; cases e
    | some ps =>
      rw [q] at e; cases e
      obtain ⟨x, y⟩ := RepL.dp r q
      exact ⟨.tup h.sq x, y⟩
  | _, _, p, .kt (ds := ds) h r z, e => by
    unfold toPy at e
    cases q : toPyL ds with
    | none => rw [q] at e; cases e
    | some ps =>
      rw [q] at e; cases e
      obtain ⟨x, y⟩ := RepL.dp r q
      exact ⟨.tup h.sq x, y⟩
  | _, _, p, .lst (ds := ds) h r z, e => by
    unfold toPy at e
    cases q : toPyL ds with
    | none => rw [q] at e; cases e
    | some ps =>
      rw [q] at e; cases e
      obtain ⟨x, y⟩ := RepL.dp r q
      exact ⟨.lst h.sq x, y⟩
theorem RepL.dp : ∀ {ds : List D} {vs : List V} {ps : List PyData}, RepL K H M ds vs → toPyL ds = some ps → DpAll K H vs ps ∧ PyData.canLayAll0 ps = true
  | _, _, _, .nil, e => by cases e; exact ⟨.nil, rfl⟩
  | _, _, _, .cons (d := d) (ds := ds) h t, e => by
    unfold toPyL at e
    cases q : toPy d with
    | none => rw [q] at e; cases e
    | some p =>
      cases q2 : toPyL ds with
      | none => rw [q, q2] at e; cases e
      | some ps =>
        rw [q, q2] at e; cases e
        obtain ⟨x, y⟩ := Rep.dp h q
        obtain ⟨x2, y2⟩ := RepL.dp t q2
        exact ⟨.cons x x2, by unfold PyData.canLayAll0; rw [y, y2]; rfl⟩
end
theorem py_of {p : PyData} (k : StoOk K H B st) (r : Rep K H (mu st B) d v) (e : pyOf st d = some p) : Dp K H v p ∧ p.canLay0 = true := by
  unfold pyOf at e
  split at e
  · rename_i a
    obtain ⟨ds, q, e⟩ := Option.bind_eq_some_iff.mp e
    have q := cellL_iff.mp q
    cases r
    obtain ⟨o, e1, r1⟩ := k.at_ a _ q
    cases o <;> try exact r1.elim
    obtain ⟨ps, q2, rfl⟩ := Option.map_eq_some_iff.mp e
    obtain ⟨x, y⟩ := RepL.dp r1.1 q2
    exact ⟨.lst (.inl (.inl e1)) x, y⟩
  · exact r.dp e
theorem key_of_ {k : Key} (r : Rep K H M d v) (e : keyOf d = some k) : v = kV k := by
  cases r <;> cases e <;> rfl
theorem keys_of : ∀ {ds : List D} {vs : List V} {ks : List Key}, RepL K H M ds vs → keysOf ds = some ks → vs = ks.map kV
  | _, _, _, .nil, e => by cases e; rfl
  | _, _, _, .cons (d := d) (ds := ds) h t, e => by
    unfold keysOf at e
    cases q : keyOf d with
    | none => rw [q] at e; cases e
    | some k =>
      cases q2 : keysOf ds with
      | none => rw [q, q2] at e; cases e
      | some ks =>
        rw [q, q2] at e; cases e
        rw [key_of_ h q, keys_of t q2]; rfl
theorem new_tup (k : StoOk K H B st) (e : H p = none) (r : RepL K H (mu st B) ds vs) (z : ds.length ≤ sizeLine) :
    Ext H (mu st B) (upd H p (.tup vs)) (mu st B) ∧ StoOk K (upd H p (.tup vs)) B st ∧ Rep K (upd H p (.tup vs)) (mu st B) (.tup ds) (.ref p) :=
  ⟨ext_new e, k.new e, .tup ⟨k.fresh e, upd_same⟩ (r.ext (ext_new e)) z⟩
theorem new_lst (k : StoOk K H B st) (e : H p = none) (r : RepL K H (mu st B) ds vs) (z : ds.length ≤ sizeLine) :
    Ext H (mu st B) (upd H p (.lst vs)) (mu st B) ∧ StoOk K (upd H p (.lst vs)) B st ∧ Rep K (upd H p (.lst vs)) (mu st B) (.lst ds) (.ref p) :=
  ⟨ext_new e, k.new e, .lst ⟨k.fresh e, .inl upd_same⟩ (r.ext (ext_new e)) z⟩
end
/-- what an operation hands on: a value, the store as it was -/
def Giv (K : PySem.W.Frag) (B : Bz) (H : Hp) (st : Sto) (Q : VK) (d : D) : Prop := ∀ v H', Ext H (mu st B) H' (mu st B) → StoOk K H' B st → Rep K H' (mu st B) d v → Q v H'
section
variable {K : PySem.W.Frag} {H : Hp} {B : Bz} {st : Sto} {p : Addr} {vs : List V} {ds : List D} {d : D} {v : V} {Q : VK}
theorem Giv.here (g : Giv K B H st Q d) (k : StoOk K H B st) (r : Rep K H (mu st B) d v) : Q v H := g v H .refl k r
theorem Giv.tup (g : Giv K B H st Q (.tup ds)) (k : StoOk K H B st) (r : RepL K H (mu st B) ds vs) (z : ds.length ≤ sizeLine) : ∀ p, H p = none → Q (.ref p) (upd H p (.tup vs)) := fun p e =>
  let ⟨a, b, c⟩ := new_tup k e r z; g _ _ a b c
theorem Giv.lst (g : Giv K B H st Q (.lst ds)) (k : StoOk K H B st) (r : RepL K H (mu st B) ds vs) (z : ds.length ≤ sizeLine) : ∀ p, H p = none → Q (.ref p) (upd H p (.lst vs)) := fun p e =>
  let ⟨a, b, c⟩ := new_lst k e r z; g _ _ a b c
end
/-- a rule of values serves a function of data -/
def OpOk (K : PySem.W.Frag) (r : R2) (o : Sto → D → D → Option D) : Prop :=
  ∀ (B : Bz) (H : Hp) (st : Sto) (x y : V) (dx dy d : D) (Q : VK), StoOk K H B st → Rep K H (mu st B) dx x → Rep K H (mu st B) dy y → o st dx dy = some d → Giv K B H st Q d → r x y H Q
/-- a call of values -/
def CaOk (K : PySem.W.Frag) (r : List V → Hp → VK → Prop) (o : Sto → List D → Option D) : Prop :=
  ∀ (B : Bz) (H : Hp) (st : Sto) (xs : List V) (dxs : List D) (d : D) (Q : VK), StoOk K H B st → RepL K H (mu st B) dxs xs → o st dxs = some d → Giv K B H st Q d → r xs H Q
def rCatR : R2 := fun x y H Q => ∃ l b xs zs, x = .ref l ∧ y = .ref b ∧ Rd H l (.lst xs) ∧ Rd H b (.lst zs) ∧ xs.length + zs.length ≤ sizeLine ∧ ∀ p, H p = none → Q (.ref p) (upd H p (.lst (xs ++ zs)))
theorem op_catR {X : Cx} : OpR X (binaryOp .Add) rCatR := by
  intro pins s σ H x y v u Q I rx ry h
  obtain ⟨l, b, xs, zs, rfl, rfl, hH, hB, hz, q⟩ := h
  cases rx
  cases ry
  obtain ⟨z, its, n, r, e⟩ := hH.ok I.hok
  obtain ⟨z2, its2, n2, r2, e2⟩ := hB.ok I.hok
  have hl := r.length
  have hl2 := r2.length
  refine PySem.P.add_list e e2 ?_ (by rw [List.size_toArray, List.size_toArray]; omega)
  have ea : its.toArray ++ its2.toArray = (its ++ its2).toArray := by simp
  rw [ea]
  exact ⟨.ref _, _, I.lnew (t' := s.toks) (r.append r2) (by rw [List.length_append]; omega), rfl, q _ I.fresh⟩
def rAdd (K : PySem.W.Frag) : R2 := fun x y H Q => (rI0 fun i j => .int (i + j)) x y H Q ∨ (∃ i j, x = .str i ∧ y = .str j ∧ i.length + j.length ≤ sizeLine ∧ Q (.str (i ++ j)) H) ∨ rCatA K x y H Q ∨ rCatR x y H Q
theorem op_addD {X : Cx} : OpR X (binaryOp .Add) (rAdd X.K) := op_add.or (op_add_str.or (op_catA.or op_catR))
def catS (x y : Str) : Option D := if x.length + y.length ≤ sizeLine then some (.str (x ++ y)) else none
def catT (xs ys : List D) : Option D := if xs.length + ys.length ≤ sizeLine then some (.tup (xs ++ ys)) else none
def catL (xs ys : List D) : Option D := if xs.length + ys.length ≤ sizeLine then some (.lst (xs ++ ys)) else none
def dAdd (st : Sto) (x y : D) : Option D := match x, y with
  | .int i, .int j => some (.int (i + j))
  | .str a, .str b => catS a b
  | .tup a, .tup b => catT a b
  | .tup _, _ => none
  | x, y => match lsOf st x, lsOf st y with | some a, some b => catL a b | _, _ => none
theorem okS_append {x y : Str} (h : okS x = true) (h' : okS y = true) : okS (x ++ y) = true := by
  obtain ⟨⟨x⟩⟩ := x
  obtain ⟨⟨y⟩⟩ := y
  show (PySem.Str.append ⟨⟨x⟩⟩ ⟨⟨y⟩⟩).cps.all _ = true
  unfold okS PyData.strOk at h h'
  simp [PySem.Str.append] at h h' ⊢
  exact ⟨h, h'⟩
theorem dAdd_ok {K : PySem.W.Frag} : OpOk K (rAdd K) dAdd := by
  intro B H st x y dx dy d Q k rx ry e g
  have lists : ∀ {a b}, lsOf st dx = some a → lsOf st dy = some b → catL a b = some d → rAdd K x y H Q := fun {a b} e1 e2 e3 => by
    obtain ⟨p, vs, rfl, h1, r1, z1⟩ := ls_of k rx e1
    obtain ⟨q, ws, rfl, h2, r2, z2⟩ := ls_of k ry e2
    unfold catL at e3
    split at e3 <;> cases e3
    rename_i hz
    have l1 := r1.length
    have l2 := r2.length
    exact .inr (.inr (.inr ⟨p, q, vs, ws, rfl, rfl, h1, h2, by omega, g.lst k (r1.append r2) (by rw [List.length_append]; exact hz)⟩))
  unfold dAdd at e
  split at e
  · cases e; cases rx; cases ry
    exact .inl ⟨_, _, rfl, rfl, g.here k (.int _)⟩
  · cases rx; cases ry
    unfold catS at e
    split at e <;> cases e
    rename_i h1 h2 hz
    exact .inr (.inl ⟨_, _, rfl, rfl, hz, g.here k (.str _ (okS_append h1 h2))⟩)
  · unfold catT at e
    split at e <;> cases e
    rename_i hz
    obtain ⟨p, vs, rfl, h1, r1, z1⟩ := tp_of rx rfl
    obtain ⟨q, ws, rfl, h2, r2, z2⟩ := tp_of ry rfl
    have l1 := r1.length
    have l2 := r2.length
    refine .inr (.inr (.inl ⟨p, q, vs, ws, rfl, rfl, h1, h2, by omega, fun ez => ?_, fun _ ez => ?_, fun _ _ => g.tup k (r1.append r2) (by rw [List.length_append]; exact hz)⟩))
    · rw [r1.nil_iff.mp ez] at g
      exact g.here k ry
    · rw [r2.nil_iff.mp ez, List.append_nil] at g
      exact g.here k rx
  · cases e
  · split at e
    · rename_i e1 e2; exact lists e1 e2 e
    · cases e
def dSub (_ : Sto) : D → D → Option D
  | .int i, .int j => some (.int (i - j))
  | _, _ => none
theorem dSub_ok {K : PySem.W.Frag} : OpOk K (rI0 fun i j => .int (i - j)) dSub := by
  intro B H st x y dx dy d Q k rx ry e g
  unfold dSub at e
  split at e <;> cases e
  cases rx; cases ry
  exact ⟨_, _, rfl, rfl, g.here k (.int _)⟩
instance (i j : Int) : Decidable (CMulW i j) := by unfold CMulW; infer_instance
instance (i j : Int) : Decidable (CDivW i j) := by unfold CDivW; infer_instance
def rRepR : R2 := fun x y H Q => ∃ l k xs, x = .ref l ∧ y = .int k ∧ Rd H l (.lst xs) ∧ -(2 ^ 63) ≤ k ∧ k < 2 ^ 63 ∧ xs.length * k.toNat ≤ sizeLine ∧ ∀ p, H p = none → Q (.ref p) (upd H p (.lst (List.replicate k.toNat xs).flatten))
theorem op_repR {X : Cx} : OpR X (binaryOp .Mult) rRepR := by
  intro pins s σ H x y v u Q I rx ry h
  obtain ⟨l, k, xs, rfl, rfl, hH, h1, h2, hz, q⟩ := h
  cases rx
  obtain ⟨t, rfl⟩ := ry
  obtain ⟨z, its, n, r, e⟩ := hH.ok I.hok
  have hl := r.length
  have hlen : its.toArray.size * k.toNat ≤ sizeLine := by rw [List.size_toArray, ← hl]; exact hz
  have hcap : ¬ its.toArray.size * k.toNat > (2 ^ 63 - 1) / 8 := by
    have : (sizeLine : Nat) ≤ (2 ^ 63 - 1) / 8 := by decide
    omega
  have hfit : ¬ (!Builtin.List.listFitsIndex k) = true := by
    rw [fitsIndex_both h1 h2]
    exact Bool.false_ne_true
  have hlong : ¬ Builtin.List.listTooLong (its.toArray.size * k.toNat) = true := by
    rw [notLongL hlen]
    exact Bool.false_ne_true
  have hnew : List.foldl (fun x1 x2 => x1 ++ x2) #[] (List.replicate (if its.toArray.isEmpty = true then 0 else k.toNat) its.toArray) = (List.replicate k.toNat its).flatten.toArray := by
    have f0 : ∀ m : Nat, List.foldl (fun x1 x2 => x1 ++ x2) #[] (List.replicate m its.toArray) = (List.replicate m its).flatten.toArray := fun m => by
      have := foldl_rep its m []
      rw [List.nil_append] at this
      exact this
    rw [f0]
    cases its with
    | nil => simp
    | cons a r' => rw [if_neg (by simp)]
  refine wpAny_binaryOp_repeat_ref (T := "list") (U := "int") (by decide) ⟨_, e, rfl⟩ (fun s' => typeIs_int s' k t) noFill_list_mul F.fills_int_mul F.slot_int_rmul repeat_list F.slot_int_index.lookup
    (call_meets F.slot_int_rmul (typeIs_int s k t) F.entry_int_rmul (F.args_int_rmul_2 _ _) (int___rmul___int_list k t l its.toArray n)
      ⟨e, rfl, ⟨_, e, rfl⟩, call_meets F.slot_list_mul ⟨_, e, rfl⟩ F.entry_list_mul (F.args_list_mul_2 _ _) (AutoListH.list___mul___list_int_3 l its.toArray n k t hfit hcap hlong) ⟨e, ?_⟩⟩)
  rw [hnew]
  exact ⟨.ref _, _, I.lnew (t' := s.toks) (r.rep k.toNat) (by rw [PyProof.Rows.lm_len_rep_flat, Nat.mul_comm]; exact hz), rfl, q _ I.fresh⟩
theorem RepL.rep {K : PySem.W.Frag} {H : Hp} {M : Mu} {ds : List D} {vs : List V} (r : RepL K H M ds vs) : ∀ k, RepL K H M (List.replicate k ds).flatten (List.replicate k vs).flatten
  | 0 => .nil
  | k + 1 => by
    rw [List.replicate_succ, List.replicate_succ, List.flatten_cons, List.flatten_cons]
    exact r.append (r.rep k)
def rMulD : R2 := fun x y H Q => (rI CMulW fun i j => .int (i * j)) x y H Q ∨ rRepR x y H Q
theorem op_mulD {X : Cx} : OpR X (binaryOp .Mult) rMulD := op_mulW.or op_repR
def dMul (st : Sto) (x y : D) : Option D := match x, y with
  | .int i, .int j => if CMulW i j then some (.int (i * j)) else none
  | x, .int k => (lsOf st x).bind fun ds => if 0 ≤ k ∧ k < 2 ^ 63 ∧ ds.length * k.toNat ≤ sizeLine then some (.lst (List.replicate k.toNat ds).flatten) else none
  | _, _ => none
theorem dMul_ok {K : PySem.W.Frag} : OpOk K rMulD dMul := by
  intro B H st x y dx dy d Q k rx ry e g
  unfold dMul at e
  split at e
  · split at e <;> cases e
    cases rx; cases ry; exact .inl ⟨_, _, rfl, rfl, by assumption, g.here k (.int _)⟩
  · obtain ⟨ds, e1, e2⟩ := Option.bind_eq_some_iff.mp e
    split at e2 <;> cases e2
    rename_i hz
    obtain ⟨p, vs, rfl, h1, r1, z1⟩ := ls_of k rx e1
    have l1 := r1.length
    cases ry
    refine .inr ⟨p, _, vs, rfl, rfl, h1, by omega, hz.2.1, by rw [l1]; exact hz.2.2, g.lst k (r1.rep _) (by rw [PyProof.Rows.lm_len_rep_flat, Nat.mul_comm]; exact hz.2.2)⟩
  · cases e
def dFdiv (_ : Sto) : D → D → Option D
  | .int i, .int j => if CDivW i j then some (.int (i / j)) else none
  | _, _ => none
theorem dFdiv_ok {K : PySem.W.Frag} : OpOk K (rI CDivW fun i j => .int (i / j)) dFdiv := by
  intro B H st x y dx dy d Q k rx ry e g
  unfold dFdiv at e
  split at e <;> try cases e
  split at e <;> cases e
  rename_i h
  cases rx; cases ry
  exact ⟨_, _, rfl, rfl, h, g.here k (.int _)⟩
def dMod (_ : Sto) : D → D → Option D
  | .int i, .int j => if 0 < j then some (.int (i % j)) else none
  | _, _ => none
theorem dMod_ok {K : PySem.W.Frag} : OpOk K (rI (fun _ j => 0 < j) fun i j => .int (i % j)) dMod := by
  intro B H st x y dx dy d Q k rx ry e g
  unfold dMod at e
  split at e <;> try cases e
  split at e <;> cases e
  rename_i h
  cases rx; cases ry
  exact ⟨_, _, rfl, rfl, h, g.here k (.int _)⟩
instance (i j : Int) : Decidable (CPow i j) := by unfold CPow; infer_instance
def dPow (_ : Sto) : D → D → Option D
  | .int i, .int j => if CPow i j then some (.int (i ^ j.toNat)) else none
  | _, _ => none
theorem dPow_ok {K : PySem.W.Frag} : OpOk K (rI CPow fun i j => .int (i ^ j.toNat)) dPow := by
  intro B H st x y dx dy d Q k rx ry e g
  unfold dPow at e
  split at e <;> try cases e
  split at e <;> cases e
  rename_i h
  cases rx; cases ry
  exact ⟨_, _, rfl, rfl, h, g.here k (.int _)⟩
def eqvM (p q : PyData) : Option Bool := if min p.depth q.depth ≤ 64 then some (PyData.eqv p q) else none
def eqB (st : Sto) (x y : D) : Option Bool := match pyOf st x, pyOf st y with | some p, some q => eqvM p q | _, _ => none
def dEq (st : Sto) (x y : D) : Option D := (eqB st x y).map .bl
def dNe (st : Sto) (x y : D) : Option D := (eqB st x y).map fun b => .bl (!b)
def rEqM (K : PySem.W.Frag) : R2 := fun x y H Q => ∃ d e, Dp K H x d ∧ Dp K H y e ∧ d.canLay0 = true ∧ e.canLay0 = true ∧ min d.depth e.depth ≤ 64 ∧ Q (.bl (PyData.eqv d e)) H
def rNeM (K : PySem.W.Frag) : R2 := fun x y H Q => ∃ d e, Dp K H x d ∧ Dp K H y e ∧ d.canLay0 = true ∧ e.canLay0 = true ∧ min d.depth e.depth ≤ 64 ∧ Q (.bl (!PyData.eqv d e)) H
theorem op_eqM {X : Cx} (hu : X.A.units + 65 < cLine) : OpR X (compareOp .Eq) (rEqM X.K) := by
  intro pins s σ H x y v u Q I rx ry h
  obtain ⟨d, e, hd, he, sd, se, z, q⟩ := h
  obtain ⟨as, r1⟩ := Dp.reads I d x v hd rx
  obtain ⟨bs, r2⟩ := Dp.reads I e y u he ry
  exact SeqAt.compareEq_reads r1 r2 sd se (by omega) ⟨.bl _, H, I, rfl, q⟩
theorem op_neM {X : Cx} (hu : X.A.units + 65 < cLine) : OpR X (compareOp .NotEq) (rNeM X.K) := by
  intro pins s σ H x y v u Q I rx ry h
  obtain ⟨d, e, hd, he, sd, se, z, q⟩ := h
  obtain ⟨as, r1⟩ := Dp.reads I d x v hd rx
  obtain ⟨bs, r2⟩ := Dp.reads I e y u he ry
  exact SeqAt.compareNe_reads r1 r2 sd se (by omega) ⟨.bl _, H, I, rfl, q⟩
theorem eqB_iff {st : Sto} {x y : D} {b : Bool} (h : eqB st x y = some b) : ∃ p q, pyOf st x = some p ∧ pyOf st y = some q ∧ min p.depth q.depth ≤ 64 ∧ b = PyData.eqv p q := by
  unfold eqB at h
  split at h <;> try cases h
  rename_i p q e1 e2
  unfold eqvM at h
  split at h <;> cases h
  exact ⟨p, q, e1, e2, by assumption, rfl⟩
theorem dEq_ok {K : PySem.W.Frag} : OpOk K (rEqM K) dEq := by
  intro B H st x y dx dy d Q k rx ry e g
  unfold dEq at e
  obtain ⟨b, e1, rfl⟩ := Option.map_eq_some_iff.mp e
  obtain ⟨p, q, e2, e3, z, rfl⟩ := eqB_iff e1
  obtain ⟨h1, c1⟩ := py_of k rx e2
  obtain ⟨h2, c2⟩ := py_of k ry e3
  exact ⟨p, q, h1, h2, c1, c2, z, g.here k (.bl _)⟩
theorem dNe_ok {K : PySem.W.Frag} : OpOk K (rNeM K) dNe := by
  intro B H st x y dx dy d Q k rx ry e g
  unfold dNe at e
  obtain ⟨b, e1, rfl⟩ := Option.map_eq_some_iff.mp e
  obtain ⟨p, q, e2, e3, z, rfl⟩ := eqB_iff e1
  obtain ⟨h1, c1⟩ := py_of k rx e2
  obtain ⟨h2, c2⟩ := py_of k ry e3
  exact ⟨p, q, h1, h2, c1, c2, z, g.here k (.bl _)⟩
def dLt (_ : Sto) : D → D → Option D
  | .int i, .int j => some (.bl (decide (i < j)))
  | .str x, .str y => some (.bl (decide (x.cps.toList < y.cps.toList)))
  | _, _ => none
def rLt2 : R2 := fun x y H Q => (rI0 fun i j => .bl (decide (i < j))) x y H Q ∨ (∃ i j, x = .str i ∧ y = .str j ∧ Q (.bl (decide (i.cps.toList < j.cps.toList))) H)
theorem op_ltD {X : Cx} : OpR X (compareOp .Lt) rLt2 := op_lt.or op_lt_str
theorem dLt_ok {K : PySem.W.Frag} : OpOk K rLt2 dLt := by
  intro B H st x y dx dy d Q k rx ry e g
  unfold dLt at e
  split at e <;> cases e
  · cases rx; cases ry; exact .inl ⟨_, _, rfl, rfl, g.here k (.bl _)⟩
  · cases rx; cases ry; exact .inr ⟨_, _, rfl, rfl, g.here k (.bl _)⟩
def dLe (_ : Sto) : D → D → Option D
  | .int i, .int j => some (.bl (decide (i ≤ j)))
  | _, _ => none
theorem dLe_ok {K : PySem.W.Frag} : OpOk K (rI0 fun i j => .bl (decide (i ≤ j))) dLe := by
  intro B H st x y dx dy d Q k rx ry e g
  unfold dLe at e
  split at e <;> cases e
  cases rx; cases ry; exact ⟨_, _, rfl, rfl, g.here k (.bl _)⟩
def dGt (_ : Sto) : D → D → Option D
  | .int i, .int j => some (.bl (decide (j < i)))
  | _, _ => none
theorem dGt_ok {K : PySem.W.Frag} : OpOk K (rI0 fun i j => .bl (decide (j < i))) dGt := by
  intro B H st x y dx dy d Q k rx ry e g
  unfold dGt at e
  split at e <;> cases e
  cases rx; cases ry; exact ⟨_, _, rfl, rfl, g.here k (.bl _)⟩
def dGe (_ : Sto) : D → D → Option D
  | .int i, .int j => some (.bl (decide (j ≤ i)))
  | _, _ => none
theorem dGe_ok {K : PySem.W.Frag} : OpOk K (rI0 fun i j => .bl (decide (j ≤ i))) dGe := by
  intro B H st x y dx dy d Q k rx ry e g
  unfold dGe at e
  split at e <;> cases e
  cases rx; cases ry; exact ⟨_, _, rfl, rfl, g.here k (.bl _)⟩
/-- is None -/
def isN : D → Bool
  | .non => true
  | _ => false
theorem isN_ok {K : PySem.W.Frag} {H : Hp} {M : Mu} {d : D} {v : V} (r : Rep K H M d v) : decide (v = V.non) = isN d := by
  cases r <;> rfl
def dIs (_ : Sto) (x y : D) : Option D := match y with | .non => some (.bl (isN x)) | _ => none
def dIsNot (_ : Sto) (x y : D) : Option D := match y with | .non => some (.bl (!isN x)) | _ => none
theorem dIs_ok {K : PySem.W.Frag} : OpOk K (fun x y H Q => y = .non ∧ Q (.bl (decide (x = .non))) H) dIs := by
  intro B H st x y dx dy d Q k rx ry e g
  unfold dIs at e
  split at e <;> cases e
  cases ry
  exact ⟨rfl, by rw [isN_ok rx]; exact g.here k (.bl _)⟩
theorem dIsNot_ok {K : PySem.W.Frag} : OpOk K (fun x y H Q => y = .non ∧ Q (.bl (!decide (x = .non))) H) dIsNot := by
  intro B H st x y dx dy d Q k rx ry e g
  unfold dIsNot at e
  split at e <;> cases e
  cases ry
  exact ⟨rfl, by rw [isN_ok rx]; exact g.here k (.bl _)⟩
end DL
namespace DL
open PySem PySem.Spec PyProof.Rows L2
def cellKV : Option Cell → Option (List (Key × D))
  | some (.dk kvs) => some kvs
  | _ => none
def cellTV : Option Cell → Option (List (List Key × D))
  | some (.dt kvs) => some kvs
  | _ => none
theorem cellKV_iff {c : Option Cell} {ds} : cellKV c = some ds ↔ c = some (.dk ds) := by
  constructor
  · intro h
    unfold cellKV at h
    split at h <;> cases h
    rfl
  · intro h; rw [h]; rfl
theorem cellTV_iff {c : Option Cell} {ds} : cellTV c = some ds ↔ c = some (.dt ds) := by
  constructor
  · intro h
    unfold cellTV at h
    split at h <;> cases h
    rfl
  · intro h; rw [h]; rfl
@[simp] theorem cellKV_dk {ds} : cellKV (some (.dk ds)) = some ds := rfl
@[simp] theorem cellTV_dt {ds} : cellTV (some (.dt ds)) = some ds := rfl
def tkeyOf : D → Option (List Key)
  | .tup ds => keysOf ds
  | _ => none
/-- what a dict holds at a key: some none, where nothing -/
def dctGet (c : Option Cell) (x : D) : Option (Option D) := match cellKV c with
  | some kvs => (keyOf x).map fun k => valD kvs k
  | none => match cellTV c with
    | some kvs => (tkeyOf x).map fun k => valD kvs k
    | none => none
def oneSign (x : Str) : Option Nat := match x.cps.toList with
  | [c] => some c
  | _ => none
def anyEq (st : Sto) (ds : List D) (x : D) : Option Bool := match toPyL ds, pyOf st x with
  | some ps, some p => if p.depth ≤ 60 then some (ps.any fun z => PyData.eqv z p) else none
  | _, _ => none
def inB (st : Sto) (x y : D) : Option Bool := match y with
  | .str z => match x with | .str c => (oneSign c).map fun c => decide (c ∈ z.cps.toList) | _ => none
  | y => match sqOf st y with
    | some ds => anyEq st ds x
    | none => match y with | .ref a => (dctGet (st a) x).map Option.isSome | _ => none
def dIn (st : Sto) (x y : D) : Option D := (inB st x y).map .bl
def dNotIn (st : Sto) (x y : D) : Option D := (inB st x y).map fun b => .bl (!b)
theorem valD_rel {κ : Type} [DecidableEq κ] {K : PySem.W.Frag} {H : Hp} {M : Mu} : ∀ {kvs : List (κ × D)} {ws : List (κ × V)} {k : κ}, ws.map (·.1) = kvs.map (·.1) → RepL K H M (kvs.map (·.2)) (ws.map (·.2)) →
    (valD kvs k = none ∧ valV ws k = none) ∨ ∃ d v, valD kvs k = some d ∧ valV ws k = some v ∧ Rep K H M d v
  | [], [], k, _, _ => .inl ⟨rfl, rfl⟩
  | [], _ :: _, _, e, _ => by simp at e
  | _ :: _, [], _, e, _ => by simp at e
  | (a, d) :: kvs, (b, v) :: ws, k, e, r => by
    simp only [List.map_cons, List.cons.injEq] at e
    obtain ⟨e1, e2⟩ := e
    subst e1
    cases r with
    | cons r1 r2 =>
      by_cases h : b = k
      · refine .inr ⟨d, v, ?_, ?_, r1⟩
        · show (if b = k then some d else valD kvs k) = some d
          rw [if_pos h]
        · subst h
          show valV ((b, v) :: ws) b = some v
          simp [valV]
      · have e3 : valD ((b, d) :: kvs) k = valD kvs k := if_neg h
        have e4 : valV ((b, v) :: ws) k = valV ws k := by simp [valV, h]
        rw [e3, e4]
        exact valD_rel e2 r2
section
variable {K : PySem.W.Frag} {H : Hp} {B : Bz} {M : Mu} {st : Sto} {a : Addr} {d : D} {v y : V}
theorem dct_get {o : Option D} (k : StoOk K H B st) (r : Rep K H (mu st B) d y) (e : dctGet (st a) d = some o) : ∃ ov, DGet H a y ov ∧ ((o = none ∧ ov = none) ∨ ∃ d v, o = some d ∧ ov = some v ∧ Rep K H (mu st B) d v) := by
  unfold dctGet at e
  split at e
  · rename_i kvs q
    have q := cellKV_iff.mp q
    obtain ⟨u, e1, r1⟩ := k.at_ a _ q
    cases u <;> try exact r1.elim
    obtain ⟨key, e2, rfl⟩ := Option.map_eq_some_iff.mp e
    rename_i ws
    refine ⟨valV ws key, .inl ⟨ws, key, .inl e1, key_of_ r e2, rfl⟩, ?_⟩
    rcases valD_rel (k := key) r1.1 r1.2 with h | ⟨d, v, h1, h2, h3⟩
    · exact .inl h
    · exact .inr ⟨d, v, h1, h2, h3⟩
  · split at e
    · rename_i kvs q
      have q := cellTV_iff.mp q
      obtain ⟨u, e1, r1⟩ := k.at_ a _ q
      cases u <;> try exact r1.elim
      obtain ⟨key, e2, rfl⟩ := Option.map_eq_some_iff.mp e
      rename_i ws
      unfold tkeyOf at e2
      split at e2
      · cases r
        rename_i h r z
        refine ⟨valV ws key, .inr ⟨ws, key, _, .inl e1, rfl, ?_, rfl⟩, ?_⟩
        · rw [← keys_of r e2]; exact h.2
        · rcases valD_rel (k := key) r1.1 r1.2 with h | ⟨d, v, h1, h2, h3⟩
          · exact .inl h
          · exact .inr ⟨d, v, h1, h2, h3⟩
      · cases e2
    · cases e
end
def rInAny (K : PySem.W.Frag) (neg : Bool) : R2 := fun x y H Q => ∃ d p ds vs, y = .ref p ∧ Dp K H x d ∧ (SqL K H p vs ∨ SqT K H p vs) ∧ DpAll K H vs ds ∧ d.canLay0 = true ∧ PyData.canLayAll0 ds = true ∧ d.depth ≤ 60 ∧ Q (.bl (if neg then !ds.any fun z => PyData.eqv z d else ds.any fun z => PyData.eqv z d)) H
theorem op_inAny {X : Cx} (hu : X.A.units + 65 < cLine) : OpR X (compareOp .In) (rInAny X.K false) := by
  intro pins s σ H x y v u Q I rx ry h
  obtain ⟨d, p, ds, vs, rfl, hd, hl, he, sd, se, z, q⟩ := h
  obtain ⟨as, r1⟩ := Dp.reads I d x v hd rx
  have hr : X.A.units + 1 + min (PyData.depthAll ds) d.depth < cLine := by
    have : min (PyData.depthAll ds) d.depth ≤ d.depth := Nat.min_le_right _ _
    omega
  rcases hl with hl | hl
  · obtain ⟨bs, r2⟩ := Dp.reads I (.list ds) (.ref p) u (.lst hl he) ry
    exact SeqAt.in_list_reads r2 r1 se sd hr ⟨.bl _, H, I, rfl, q⟩
  · obtain ⟨bs, r2⟩ := Dp.reads I (.tuple ds) (.ref p) u (.tup hl he) ry
    exact SeqAt.in_tuple_reads r2 r1 se sd hr ⟨.bl _, H, I, rfl, q⟩
theorem op_notInAny {X : Cx} (hu : X.A.units + 65 < cLine) : OpR X (compareOp .NotIn) (rInAny X.K true) := by
  intro pins s σ H x y v u Q I rx ry h
  obtain ⟨d, p, ds, vs, rfl, hd, hl, he, sd, se, z, q⟩ := h
  obtain ⟨as, r1⟩ := Dp.reads I d x v hd rx
  have hr : X.A.units + 1 + min (PyData.depthAll ds) d.depth < cLine := by
    have : min (PyData.depthAll ds) d.depth ≤ d.depth := Nat.min_le_right _ _
    omega
  rcases hl with hl | hl
  · obtain ⟨bs, r2⟩ := Dp.reads I (.list ds) (.ref p) u (.lst hl he) ry
    exact SeqAt.notIn_list_reads r2 r1 se sd hr ⟨.bl _, H, I, rfl, q⟩
  · obtain ⟨bs, r2⟩ := Dp.reads I (.tuple ds) (.ref p) u (.tup hl he) ry
    exact SeqAt.notIn_tuple_reads r2 r1 se sd hr ⟨.bl _, H, I, rfl, q⟩
def rInD' (neg : Bool) : R2 := fun x y H Q => ∃ a o, y = .ref a ∧ DGet H a x o ∧ Q (.bl (if neg then !o.isSome else o.isSome)) H
theorem op_inDct {X : Cx} (hu : X.A.units + 65 < cLine) : OpR X (compareOp .In) (rInD' false) := by
  intro pins s σ H x y v u Q I rx ry h
  obtain ⟨a, o, rfl, g, q⟩ := h
  cases ry
  exact d_in (by omega) I g rx fun s3 I3 => ⟨.bl o.isSome, H, I3, rfl, q⟩
theorem op_notInDct {X : Cx} (hu : X.A.units + 65 < cLine) : OpR X (compareOp .NotIn) (rInD' true) := by
  intro pins s σ H x y v u Q I rx ry h
  obtain ⟨a, o, rfl, g, q⟩ := h
  cases ry
  exact d_notIn (by omega) I g rx fun s3 I3 => ⟨.bl (!o.isSome), H, I3, rfl, q⟩
def rInW (K : PySem.W.Frag) : R2 := fun x y H Q => (∃ (c : Nat) (z : Str), x = .str ⟨#[c]⟩ ∧ y = .str z ∧ Q (.bl (decide (c ∈ z.cps.toList))) H) ∨ rInAny K false x y H Q ∨ rInD' false x y H Q
def rNotInW (K : PySem.W.Frag) : R2 := fun x y H Q => (∃ (c : Nat) (z : Str), x = .str ⟨#[c]⟩ ∧ y = .str z ∧ Q (.bl (!decide (c ∈ z.cps.toList))) H) ∨ rInAny K true x y H Q ∨ rInD' true x y H Q
theorem op_inW {X : Cx} (hu : X.A.units + 65 < cLine) : OpR X (compareOp .In) (rInW X.K) := op_in_sign.or ((op_inAny hu).or (op_inDct hu))
theorem op_notInW {X : Cx} (hu : X.A.units + 65 < cLine) : OpR X (compareOp .NotIn) (rNotInW X.K) := op_notIn_sign.or ((op_notInAny hu).or (op_notInDct hu))
theorem oneSign_iff {x : Str} {c : Nat} (h : oneSign x = some c) : x = ⟨#[c]⟩ := by
  unfold oneSign at h
  split at h <;> cases h
  rename_i e
  obtain ⟨⟨l⟩⟩ := x
  simp at e
  rw [e]
theorem inB_ok {K : PySem.W.Frag} {B : Bz} {H : Hp} {st : Sto} {x y : V} {dx dy : D} {b : Bool} (k : StoOk K H B st) (rx : Rep K H (mu st B) dx x) (ry : Rep K H (mu st B) dy y) (e : inB st dx dy = some b) :
    (∃ (c : Nat) (z : Str), x = .str ⟨#[c]⟩ ∧ y = .str z ∧ b = decide (c ∈ z.cps.toList)) ∨
    (∃ d p ds vs, y = .ref p ∧ Dp K H x d ∧ (SqL K H p vs ∨ SqT K H p vs) ∧ DpAll K H vs ds ∧ d.canLay0 = true ∧ PyData.canLayAll0 ds = true ∧ d.depth ≤ 60 ∧ b = ds.any fun z => PyData.eqv z d) ∨
    ∃ a o, y = .ref a ∧ DGet H a x o ∧ b = o.isSome := by
  unfold inB at e
  split at e
  · split at e
    · obtain ⟨c, e1, rfl⟩ := Option.map_eq_some_iff.mp e
      have e2 := oneSign_iff e1
      subst e2
      cases rx; cases ry
      exact .inl ⟨_, _, rfl, rfl, rfl⟩
    · cases e
  · split at e
    · rename_i ds q
      obtain ⟨a, vs, rfl, h, r, z⟩ := sq_of k ry q
      unfold anyEq at e
      split at e
      · rename_i ps p e1 e2
        split at e <;> cases e
        obtain ⟨h1, c1⟩ := py_of k rx e2
        obtain ⟨h2, c2⟩ := RepL.dp r e1
        exact .inr (.inl ⟨p, a, ps, vs, rfl, h1, h, h2, c1, c2, by assumption, rfl⟩)
      · cases e
    · split at e
      · obtain ⟨o, e1, rfl⟩ := Option.map_eq_some_iff.mp e
        cases ry
        obtain ⟨ov, g, h⟩ := dct_get k rx e1
        refine .inr (.inr ⟨_, ov, rfl, g, ?_⟩)
        rcases h with ⟨h1, h2⟩ | ⟨d, v, h1, h2, _⟩
        · rw [h1, h2]; rfl
        · rw [h1, h2]; rfl
      · cases e
theorem dIn_ok {K : PySem.W.Frag} : OpOk K (rInW K) dIn := by
  intro B H st x y dx dy d Q k rx ry e g
  obtain ⟨b, e1, rfl⟩ := Option.map_eq_some_iff.mp (show (inB st dx dy).map D.bl = some d from e)
  have q := g.here k (.bl b)
  rcases inB_ok k rx ry e1 with ⟨c, z, h1, h2, h3⟩ | ⟨d, p, ds, vs, h1, h2, h3, h4, h5, h6, h7, h8⟩ | ⟨a, o, h1, h2, h3⟩
  · exact .inl ⟨c, z, h1, h2, by rw [← h3]; exact q⟩
  · exact .inr (.inl ⟨d, p, ds, vs, h1, h2, h3, h4, h5, h6, h7, by rw [← h8]; exact q⟩)
  · exact .inr (.inr ⟨a, o, h1, h2, by rw [← h3]; exact q⟩)
theorem dNotIn_ok {K : PySem.W.Frag} : OpOk K (rNotInW K) dNotIn := by
  intro B H st x y dx dy d Q k rx ry e g
  obtain ⟨b, e1, rfl⟩ := Option.map_eq_some_iff.mp (show (inB st dx dy).map (fun b => D.bl (!b)) = some d from e)
  have q := g.here k (.bl (!b))
  rcases inB_ok k rx ry e1 with ⟨c, z, h1, h2, h3⟩ | ⟨d, p, ds, vs, h1, h2, h3, h4, h5, h6, h7, h8⟩ | ⟨a, o, h1, h2, h3⟩
  · exact .inl ⟨c, z, h1, h2, by rw [← h3]; exact q⟩
  · exact .inr (.inl ⟨d, p, ds, vs, h1, h2, h3, h4, h5, h6, h7, by rw [← h8]; exact q⟩)
  · exact .inr (.inr ⟨a, o, h1, h2, by rw [← h3]; exact q⟩)
def truth (st : Sto) : D → Option Bool
  | .non => some false
  | .bl b => some b
  | .int i => some (i != 0)
  | .str y => if y.length ≤ sizeLine then some ((y.length : Int) != 0) else none
  | .tup ds => some !ds.isEmpty
  | .kt ds => some !ds.isEmpty
  | .lst ds => some !ds.isEmpty
  | .kl _ => none
  | .ref a => match st a with
    | some (.lst ds) => some !ds.isEmpty
    | some (.dk kvs) => some !kvs.isEmpty
    | _ => none
  | .ty _ => none
  | .exc _ => none
  | .cls _ => none
theorem RepL.emp {K : PySem.W.Frag} {H : Hp} {M : Mu} {ds : List D} {vs : List V} (r : RepL K H M ds vs) : ds.isEmpty = vs.isEmpty := by cases r <;> rfl
theorem truth_ok {K : PySem.W.Frag} {B : Bz} {H : Hp} {st : Sto} {x : V} {d : D} {b : Bool} (k : StoOk K H B st) (r : Rep K H (mu st B) d x) (e : truth st d = some b) : TruV K x H b := by
  cases r with
  | non => cases e; rfl
  | bl b => cases e; rfl
  | int i => cases e; rfl
  | str x h =>
    unfold truth at e
    simp only at e
    split at e <;> cases e
    exact ⟨by assumption, rfl⟩
  | ty n => cases e
  | exc h => cases e
  | cls x => cases e
  | tup h r z => cases e; exact .inr (.inl ⟨_, h.sq, by rw [r.emp]⟩)
  | kt h r z => cases e; exact .inr (.inl ⟨_, h.sq, by rw [r.emp]⟩)
  | lst h r z => cases e; exact .inl ⟨_, h.sq, by rw [r.emp]⟩
  | kl h r z => cases e
  | ref a =>
    unfold truth at e
    simp only at e
    split at e
    · rename_i q
      cases e
      obtain ⟨o, e1, r1⟩ := k.at_ a _ q
      cases o <;> try exact r1.elim
      exact .inl ⟨_, .inl (.inl e1), by rw [r1.1.emp]⟩
    · rename_i kvs q
      cases e
      obtain ⟨o, e1, r1⟩ := k.at_ a _ q
      cases o <;> try exact r1.elim
      rename_i ws
      refine .inr (.inr ⟨ws, e1, ?_⟩)
      have := congrArg List.length r1.1
      cases ws <;> cases kvs <;> simp at this ⊢
    · cases e
def ixD (st : Sto) (x y : D) : Option D := match x with
  | .str z => match y with | .int i => if z.length ≤ sizeLine then (atI z.cps.toList i).map fun c => .str ⟨#[c]⟩ else none | _ => none
  | x => match sqOf st x with
    | some ds => match y with | .int i => atI ds i | _ => none
    | none => match x with | .ref a => (dctGet (st a) y).bind id | _ => none
def rIxW (K : PySem.W.Frag) : R2 := fun x y H Q => rIxL K x y H Q ∨ rIxT K x y H Q ∨ rIxS x y H Q ∨ (∃ a v, x = .ref a ∧ DGet H a y (some v) ∧ Q v H)
theorem ix_dct {X : Cx} (hu : X.A.units + 65 < cLine) : IxR X (fun x y H Q => ∃ a v, x = .ref a ∧ DGet H a y (some v) ∧ Q v H) := by
  intro value slice pins s σ H x y v u Q I rx ry h hs
  obtain ⟨a, v0, rfl, g, q⟩ := h
  cases rx
  exact tail_any (dict_typeIs I g) PySem.F.slot_dict_getitem.lookup (d_getItem (by omega) I g ry fun w' s3 I3 rw' => ⟨v0, H, I3, rw', q⟩) hs
theorem ix_W {X : Cx} (hu : X.A.units + 65 < cLine) : IxR X (rIxW X.K) := ix_list.or (ix_tup.or (ix_str.or (ix_dct hu)))
theorem RepL.atI {K : PySem.W.Frag} {H : Hp} {M : Mu} {ds : List D} {vs : List V} {i : Int} {d : D} (r : RepL K H M ds vs) (e : atI ds i = some d) : ∃ v, atI vs i = some v ∧ Rep K H M d v := by
  unfold L2.atI at e ⊢
  obtain ⟨j, e1, e2⟩ := Option.bind_eq_some_iff.mp e
  obtain ⟨v, e3, r3⟩ := r.get e2
  exact ⟨v, by rw [r.length, e1]; exact e3, r3⟩
theorem okS_sign {z : Str} {i : Int} {c : Nat} (h : okS z = true) (e : atI z.cps.toList i = some c) : okS ⟨#[c]⟩ = true := by
  unfold L2.atI at e
  obtain ⟨j, _, e2⟩ := Option.bind_eq_some_iff.mp e
  have m : c ∈ z.cps.toList := List.mem_of_getElem? e2
  unfold okS PyData.strOk at h ⊢
  rw [Array.all_eq_true'] at h
  have := h c (Array.mem_def.mpr m)
  simpa using this
theorem ixD_ok {K : PySem.W.Frag} : OpOk K (rIxW K) ixD := by
  intro B H st x y dx dy d Q k rx ry e g
  unfold ixD at e
  split at e
  · split at e
    · split at e <;> try cases e
      obtain ⟨c, e1, rfl⟩ := Option.map_eq_some_iff.mp e
      cases rx; cases ry
      rename_i h
      exact .inr (.inr (.inl ⟨_, _, c, rfl, rfl, by assumption, e1, g.here k (.str _ (okS_sign h e1))⟩))
    · cases e
  · split at e
    · rename_i ds q
      split at e
      · obtain ⟨a, vs, rfl, h, r, z⟩ := sq_of k rx q
        obtain ⟨v, e1, r1⟩ := r.atI e
        cases ry
        rcases h with h | h
        · exact .inl ⟨a, vs, _, v, rfl, rfl, h, e1, g.here k r1⟩
        · exact .inr (.inl ⟨a, vs, _, v, rfl, rfl, h, e1, g.here k r1⟩)
      · cases e
    · split at e
      · obtain ⟨o, e1, e2⟩ := Option.bind_eq_some_iff.mp e
        cases rx
        obtain ⟨ov, g1, h⟩ := dct_get k ry e1
        rcases h with ⟨h1, _⟩ | ⟨d', v, h1, h2, r⟩
        · rw [h1] at e2; cases e2
        · rw [h1] at e2; cases e2
          exact .inr (.inr (.inr ⟨_, v, rfl, by rw [← h2]; exact g1, g.here k r⟩))
      · cases e
def cutD (ds : List D) (lo hi : Option Int) : List D := (ds.drop (HT.sIx ds.length 0 lo)).take (HT.sIx ds.length ds.length hi - HT.sIx ds.length 0 lo)
theorem RepL.cut {K : PySem.W.Frag} {H : Hp} {M : Mu} {ds : List D} {vs : List V} (lo hi : Option Int) (r : RepL K H M ds vs) : RepL K H M (cutD ds lo hi) (cutV vs lo hi) := by
  unfold cutD cutV
  rw [r.length]
  exact (r.drop _).take _
theorem cutD_length (ds : List D) (lo hi : Option Int) : (cutD ds lo hi).length ≤ ds.length := by
  unfold cutD
  rw [List.length_take, List.length_drop]
  omega
def slD (st : Sto) (x : D) (lo hi : Option Int) : Option D := match x with
  | .str z => if z.length ≤ sizeLine then some (.str (cutS z lo hi)) else none
  | .tup ds => some (.tup (cutD ds lo hi))
  | .kt _ => none
  | x => (lqOf st x).map fun ds => .lst (cutD ds lo hi)
def rSlW (K : PySem.W.Frag) : V → Option Int → Option Int → Hp → VK → Prop := fun x lo hi H Q => rSlA K x lo hi H Q ∨ rSlL K x lo hi H Q ∨ rSlS x lo hi H Q
theorem sl_W {X : Cx} : SlR X (rSlW X.K) := sl_tupA.or (sl_list.or sl_str)
theorem okS_cut {z : Str} (h : okS z = true) (lo hi : Option Int) : okS (cutS z lo hi) = true := by
  unfold okS PyData.strOk cutS at *
  rw [Array.all_eq_true'] at h ⊢
  intro c hc
  refine h c ?_
  have := Array.mem_def.mp hc
  simp only at this
  exact Array.mem_def.mpr (List.mem_of_mem_drop (List.mem_of_mem_take this))
theorem cutD_whole {ds : List D} {lo hi : Option Int} (h : HT.sIx ds.length 0 lo = 0 ∧ HT.sIx ds.length ds.length hi = ds.length) : cutD ds lo hi = ds := by
  unfold cutD
  rw [h.1, h.2, List.drop_zero, Nat.sub_zero, List.take_length]
theorem slD_ok {K : PySem.W.Frag} {B : Bz} {H : Hp} {st : Sto} {x : V} {dx d : D} {lo hi : Option Int} {Q : VK} (k : StoOk K H B st) (rx : Rep K H (mu st B) dx x) (e : slD st dx lo hi = some d) (g : Giv K B H st Q d) : rSlW K x lo hi H Q := by
  unfold slD at e
  split at e
  · split at e <;> cases e
    cases rx
    rename_i h
    exact .inr (.inr ⟨_, rfl, by assumption, g.here k (.str _ (okS_cut h lo hi))⟩)
  · cases e
    have rx' := rx
    cases rx
    rename_i ds a vs h r z
    have l := r.length
    refine .inl ⟨a, vs, rfl, h.sq, fun w => ?_, fun w => g.tup k (r.cut lo hi) (Nat.le_trans (cutD_length _ _ _) z)⟩
    rw [l] at w
    rw [cutD_whole w] at g
    exact g.here k rx'
  · cases e
  · obtain ⟨ds, e1, rfl⟩ := Option.map_eq_some_iff.mp e
    obtain ⟨a, vs, rfl, h, r, z⟩ := lq_of k rx e1
    exact .inr (.inl ⟨a, vs, rfl, h, g.lst k (r.cut lo hi) (Nat.le_trans (cutD_length _ _ _) z)⟩)
def lenD (st : Sto) : D → Option Nat
  | .str y => if y.length ≤ sizeLine then some y.length else none
  | .ref a => match st a with
    | some (.lst ds) => some ds.length
    | some (.dk kvs) => some kvs.length
    | _ => none
  | d => (sqOf st d).map List.length
def cLen (st : Sto) : List D → Option D
  | [d] => (lenD st d).map fun (n : Nat) => .int (n : Int)
  | _ => none
def rLen2 (K : PySem.W.Frag) : List V → Hp → VK → Prop := fun xs H Q => (∃ x n, xs = [x] ∧ LenV K x H n ∧ Q (.int n) H) ∨ ∃ a kvs, xs = [.ref a] ∧ H a = some (.dK kvs) ∧ Q (.int kvs.length) H
theorem call_len2 {X : Cx} : CallR X (.builtin "len") (rLen2 X.K) := call_len.or call_lenD
theorem cLen_ok {K : PySem.W.Frag} : CaOk K (rLen2 K) cLen := by
  intro B H st xs dxs d Q k r e g
  unfold cLen at e
  split at e <;> try cases e
  obtain ⟨n, e1, rfl⟩ := Option.map_eq_some_iff.mp e
  cases r with
  | cons r1 r2 =>
    cases r2
    have q := g.here k (.int n)
    have sq : ∀ {d v}, Rep K H (mu st B) d v → (sqOf st d).map List.length = some n → LenV K v H n := fun {d v} r e => by
      obtain ⟨ds, e2, rfl⟩ := Option.map_eq_some_iff.mp e
      obtain ⟨a, vs, rfl, h, r3, _⟩ := sq_of k r e2
      rcases h with h | h
      · exact .inl ⟨vs, h, r3.length.symm⟩
      · exact .inr ⟨vs, h, r3.length.symm⟩
    unfold lenD at e1
    split at e1
    · split at e1 <;> cases e1
      cases r1
      exact .inl ⟨_, _, rfl, ⟨by assumption, rfl⟩, q⟩
    · rename_i a
      cases r1
      split at e1
      · rename_i ds q2
        cases e1
        exact .inl ⟨_, _, rfl, sq (.ref a) (by rw [sqOf_ref q2]; rfl), q⟩
      · rename_i kvs q2
        cases e1
        obtain ⟨o, e3, r3⟩ := k.at_ a _ q2
        cases o <;> try exact r3.elim
        rename_i ws
        refine .inr ⟨a, ws, rfl, e3, ?_⟩
        have := congrArg List.length r3.1
        simp only [List.length_map] at this
        rw [this]
        exact q
      · cases e1
    · exact .inl ⟨_, _, rfl, sq r1 e1, q⟩
def cInt (_ : Sto) : List D → Option D
  | [.int i] => some (.int i)
  | [.bl b] => some (.int (if b then 1 else 0))
  | _ => none
theorem cInt_ok {K : PySem.W.Frag} : CaOk K (fun xs H Q => (∃ i, xs = [.int i] ∧ Q (.int i) H) ∨ ∃ k, xs = [.bl k] ∧ Q (.int (if k then 1 else 0)) H) cInt := by
  intro B H st xs dxs d Q k r e g
  unfold cInt at e
  split at e <;> cases e
  · cases r with
    | cons r1 r2 => cases r2; cases r1; exact .inl ⟨_, rfl, g.here k (.int _)⟩
  · cases r with
    | cons r1 r2 => cases r2; cases r1; exact .inr ⟨_, rfl, g.here k (.int _)⟩
/-- the greatest -/
def maxL : Int → List Int → Int
  | m, [] => m
  | m, n :: r => maxL (if n > m then n else m) r
theorem maxL_ge : ∀ (r : List Int) (m : Int), m ≤ maxL m r ∧ ∀ y ∈ r, y ≤ maxL m r
  | [], m => ⟨Int.le_refl _, fun _ h => nomatch h⟩
  | n :: r, m => by
    obtain ⟨h1, h2⟩ := maxL_ge r (if n > m then n else m)
    unfold maxL
    refine ⟨Int.le_trans (by split <;> omega) h1, fun y hy => ?_⟩
    rcases List.mem_cons.mp hy with rfl | hy
    · exact Int.le_trans (by split <;> omega) h1
    · exact h2 y hy
theorem maxL_mem : ∀ (r : List Int) (m : Int), maxL m r = m ∨ maxL m r ∈ r
  | [], m => .inl rfl
  | n :: r, m => by
    unfold maxL
    rcases maxL_mem r (if n > m then n else m) with h | h
    · rw [h]
      split
      · exact .inr List.mem_cons_self
      · exact .inl rfl
    · exact .inr (List.mem_cons_of_mem _ h)
def intsOf : List D → Option (List Int)
  | [] => some []
  | .int i :: ds => (intsOf ds).map (i :: ·)
  | _ => none
theorem intsOf_iff : ∀ {ds : List D} {ns : List Int}, intsOf ds = some ns ↔ ds = ns.map D.int
  | [], ns => by cases ns <;> simp [intsOf]
  | d :: ds, ns => by
    cases d <;> cases ns <;> simp [intsOf, intsOf_iff]
    exact and_comm
@[simp] theorem intsOf_map (ns : List Int) : intsOf (ns.map D.int) = some ns := intsOf_iff.mpr rfl
def cMax (st : Sto) : List D → Option D
  | [.int i, .int j] => some (.int (if j > i then j else i))
  | [d] => ((lsOf st d).bind intsOf).bind fun ns => match ns with | [] => none | n :: r => some (.int (maxL n r))
  | _ => none
def rMax2 (K : PySem.W.Frag) : List V → Hp → VK → Prop := fun xs H Q => (∃ i j, xs = [.int i, .int j] ∧ Q (.int (if j > i then j else i)) H) ∨ rMax K xs H Q
theorem call_maxW {X : Cx} (hc : X.calm = true) : CallR X (.builtin "max") (rMax2 X.K) := (call_max2 hc).or (cr_max hc)
theorem cMax_ok {K : PySem.W.Frag} : CaOk K (rMax2 K) cMax := by
  intro B H st xs dxs d Q k r e g
  unfold cMax at e
  split at e
  · cases e
    cases r with
    | cons r1 r2 => cases r2 with
      | cons r2 r3 => cases r3; cases r1; cases r2; exact .inl ⟨_, _, rfl, g.here k (.int _)⟩
  · obtain ⟨ns, e1, e2⟩ := Option.bind_eq_some_iff.mp e
    obtain ⟨ds, e3, e4⟩ := Option.bind_eq_some_iff.mp e1
    cases r with
    | cons r1 r2 =>
      cases r2
      obtain ⟨a, vs, rfl, h, r5, z⟩ := ls_of k r1 e3
      rw [intsOf_iff.mp e4] at r5
      have := r5.ints
      subst this
      cases ns with
      | nil => cases e2
      | cons n ns =>
        cases e2
        refine .inr ⟨a, n :: ns, rfl, .inl h, Nat.succ_pos _, fun m hm hle => ?_⟩
        have h1 := maxL_ge ns n
        have h2 : maxL n ns ∈ n :: ns := by
          rcases maxL_mem ns n with q | q
          · rw [q]; exact List.mem_cons_self
          · exact List.mem_cons_of_mem _ q
        have h3 : m ≤ maxL n ns := by
          rcases List.mem_cons.mp hm with rfl | q
          · exact h1.1
          · exact h1.2 m q
        have e5 : m = maxL n ns := Int.le_antisymm h3 (hle _ h2)
        rw [e5]
        exact g.here k (.int _)
  · cases e
def cMin (_ : Sto) : List D → Option D
  | [.int i, .int j] => some (.int (if j < i then j else i))
  | _ => none
def cList (st : Sto) : List D → Option D
  | [d] => (sqOf st d).map .lst
  | _ => none
theorem cList_ok {K : PySem.W.Frag} : CaOk K (fun xs H Q => ∃ p ys, xs = [.ref p] ∧ (SqL K H p ys ∨ SqT K H p ys) ∧ ∀ l, H l = none → Q (.ref l) (upd H l (.lst ys))) cList := by
  intro B H st xs dxs d Q k r e g
  unfold cList at e
  split at e <;> try cases e
  obtain ⟨ds, e1, rfl⟩ := Option.map_eq_some_iff.mp e
  cases r with
  | cons r1 r2 =>
    cases r2
    obtain ⟨a, vs, rfl, h, r3, z⟩ := sq_of k r1 e1
    exact ⟨a, vs, rfl, h, g.lst k r3 z⟩
def cTuple (st : Sto) : List D → Option D
  | [.tup ds] => some (.tup ds)
  | [.kt ds] => some (.kt ds)
  | [d] => (lsOf st d).map .tup
  | _ => none
theorem cTuple_ok {K : PySem.W.Frag} : CaOk K (fun xs H Q => ∃ p ys, xs = [.ref p] ∧ ((SqL K H p ys ∧ ∀ l, H l = none → Q (.ref l) (upd H l (.tup ys))) ∨ (SqT K H p ys ∧ Q (.ref p) H))) cTuple := by
  intro B H st xs dxs d Q k r e g
  unfold cTuple at e
  split at e
  · cases e
    cases r with
    | cons r1 r2 =>
      cases r2
      have r1' := r1
      cases r1 with
      | tup h r z => exact ⟨_, _, rfl, .inr ⟨h.sq, g.here k r1'⟩⟩
  · cases e
    cases r with
    | cons r1 r2 =>
      cases r2
      have r1' := r1
      cases r1 with
      | kt h r z => exact ⟨_, _, rfl, .inr ⟨h.sq, g.here k r1'⟩⟩
  · obtain ⟨ds, e1, rfl⟩ := Option.map_eq_some_iff.mp e
    cases r with
    | cons r1 r2 =>
      cases r2
      obtain ⟨a, vs, rfl, h, r3, z⟩ := ls_of k r1 e1
      exact ⟨a, vs, rfl, .inl ⟨.inl h, g.tup k r3 z⟩⟩
  · cases e
/-- types of data -/
def tyNm (st : Sto) : D → Option String
  | .non => some "NoneType"
  | .bl _ => some "bool"
  | .int _ => some "int"
  | .str _ => some "str"
  | .tup _ => some "tuple"
  | .kt _ => some "tuple"
  | .lst _ => some "list"
  | .kl _ => some "list"
  | .ref a => match st a with
    | some (.lst _) => some "list"
    | some (.dk _) => some "dict"
    | some (.dt _) => some "dict"
    | _ => none
  | .ty _ => none
  | .exc _ => none
  | .cls _ => none
def isiB (t T : String) : Bool := if T = "int" then t = "int" || t = "bool" else t = T
def tyNs : List String := ["NoneType", "bool", "int", "str", "tuple", "list", "dict"]
def clNs : List String := ["bool", "int", "str", "tuple", "list", "dict"]
theorem kitB_isi : (tyNs.all fun t => clNs.all fun T => decide (kitB t T = some (isiB t T))) = true := by decide +kernel
def cIsi (st : Sto) : List D → Option D
  | [d, .ty T] => if T ∈ clNs then (tyNm st d).map fun t => .bl (isiB t T) else none
  | _ => none
theorem tyNm_ok {K : PySem.W.Frag} {B : Bz} {H : Hp} {st : Sto} {x : V} {d : D} {t : String} (k : StoOk K H B st) (r : Rep K H (mu st B) d x) (e : tyNm st d = some t) : TyX K H x (.type t) ∧ t ∈ tyNs := by
  cases r with
  | non => cases e; exact ⟨.base .non, by decide⟩
  | bl b => cases e; exact ⟨.base (.bl _), by decide⟩
  | int i => cases e; exact ⟨.base (.int _), by decide⟩
  | str x h => cases e; exact ⟨.base (.str _), by decide⟩
  | ty n => cases e
  | exc h => cases e
  | cls x => cases e
  | tup h r z => cases e; exact ⟨.base (.tup h.2), by decide⟩
  | kt h r z =>
    cases e
    rcases h with ⟨o, its, n, e1, e2, _⟩ | ⟨_, o, h, _⟩
    · exact ⟨.kTuple e1 e2, by decide⟩
    · exact ⟨.fTuple h, by decide⟩
  | lst h r z =>
    cases e
    rcases h.2 with h | ⟨o, h⟩
    · exact ⟨.base (.lst h), by decide⟩
    · exact ⟨.base (.frz h), by decide⟩
  | kl h r z =>
    cases e
    rcases h with ⟨_, h | ⟨o, h⟩⟩ | ⟨o, its, n, e1, e2, _⟩
    · exact ⟨.base (.lst h), by decide⟩
    · exact ⟨.base (.frz h), by decide⟩
    · exact ⟨.kList e1 e2, by decide⟩
  | ref a =>
    unfold tyNm at e
    simp only at e
    split at e
    · rename_i q
      cases e
      obtain ⟨o, e1, r1⟩ := k.at_ a _ q
      cases o <;> try exact r1.elim
      exact ⟨.base (.lst e1), by decide⟩
    · rename_i q
      cases e
      obtain ⟨o, e1, r1⟩ := k.at_ a _ q
      cases o <;> try exact r1.elim
      exact ⟨.base (.dK e1), by decide⟩
    · rename_i q
      cases e
      obtain ⟨o, e1, r1⟩ := k.at_ a _ q
      cases o <;> try exact r1.elim
      exact ⟨.base (.dT e1), by decide⟩
    · cases e
theorem cIsi_ok {K : PySem.W.Frag} : CaOk K (rIsi K) cIsi := by
  intro B H st xs dxs d Q k r e g
  unfold cIsi at e
  split at e <;> try cases e
  split at e <;> try cases e
  rename_i T hT
  obtain ⟨t, e1, rfl⟩ := Option.map_eq_some_iff.mp e
  cases r with
  | cons r1 r2 =>
    cases r2 with
    | cons r2 r3 =>
      cases r3
      cases r2
      obtain ⟨h1, h2⟩ := tyNm_ok k r1 e1
      have h3 := kitB_isi
      rw [List.all_eq_true] at h3
      have h4 := h3 t h2
      rw [List.all_eq_true] at h4
      exact ⟨_, _, _, _, _, rfl, .ty _, h1, kit_ty (of_decide_eq_true (h4 T hT)), g.here k (.bl _)⟩
end DL
namespace DL
open PySem PySem.Spec PyProof.Rows L2
def slot (e : Env) (i : Nat) : Option D := e.getD i none
def wVar (i : Nat) : WE := fun e st _ Q => on (slot e i) fun d => Q d st
def wC (d : D) : WE := fun _ st _ Q => Q d st
def wBin (o : Sto → D → D → Option D) (a b : WE) : WE := fun e st X Q => a e st X fun x st1 => b e st1 X fun y st2 => on (o st2 x y) fun z => Q z st2
def wUn (o : Sto → D → Option D) (a : WE) : WE := fun e st X Q => a e st X fun x st1 => on (o st1 x) fun z => Q z st1
def wOr (a b : WE) : WE := fun e st X Q => a e st X fun x st1 => on (truth st1 x) fun t => if t = true then Q x st1 else b e st1 X Q
def wAnd (a b : WE) : WE := fun e st X Q => a e st X fun x st1 => on (truth st1 x) fun t => if t = true then b e st1 X Q else Q x st1
def wNot (a : WE) : WE := fun e st X Q => a e st X fun x st1 => on (truth st1 x) fun t => Q (.bl (!t)) st1
def bOf : D → Option Bool
  | .bl b => some b
  | _ => none
@[simp] theorem bOf_bl {b : Bool} : bOf (.bl b) = some b := rfl
def wChain (o o' : Sto → D → D → Option D) (a b c : WE) : WE := fun e st X Q => a e st X fun x st1 => b e st1 X fun y st2 => on (o st2 x y) fun z => on (bOf z) fun t => if t = true then c e st2 X fun w st3 => on (o' st3 y w) fun u => Q u st3 else Q (.bl false) st2
def iOf : D → Option Int
  | .int i => some i
  | _ => none
@[simp] theorem iOf_int {i : Int} : iOf (.int i) = some i := rfl
/-- a part of a slice: none, or a number -/
abbrev WO := Env → Sto → PoX → (Option Int → Sto → Prop) → Prop
def wNo : WO := fun _ st _ Q => Q none st
def wPart (m : WE) : WO := fun e st X Q => m e st X fun d st1 => on (iOf d) fun i => Q (some i) st1
def wSl (a : WE) (lo hi : WO) : WE := fun e st X Q => a e st X fun x st1 => lo e st1 X fun l st2 => hi e st2 X fun h st3 => on (slD st3 x l h) fun d => Q d st3
def wNil : WA := fun _ st _ Q => Q [] st
def wCons (m : WE) (r : WA) : WA := fun e st X Q => m e st X fun d st1 => r e st1 X fun ds st2 => Q (d :: ds) st2
def wTup (m : WA) : WE := fun e st X Q => m e st X fun ds st1 => Q (.tup ds) st1
def wLst (m : WA) : WE := fun e st X Q => m e st X fun ds st1 => Q (.lst ds) st1
/-- a list that will change -/
def wLstR (m : WA) : WE := fun e st X Q => m e st X fun ds st1 => ∀ p, st1 p = none → Q (.ref p) (st1.set p (.lst ds))
def wCall (o : Sto → List D → Option D) (m : WA) : WE := fun e st X Q => m e st X fun ds st1 => on (o st1 ds) fun d => Q d st1
def wFn (F : WF) (m : WA) : WE := fun e st X Q => m e st X fun ds st1 => F ds st1 X Q
def wTB (m : WE) : WT := fun e st X Q => m e st X fun d st1 => on (bOf d) fun b => Q b st1
def wTT (m : WE) : WT := fun e st X Q => m e st X fun d st1 => on (truth st1 d) fun b => Q b st1
def wTAnd (a b : WT) : WT := fun e st X Q => a e st X fun c st1 => if c = true then b e st1 X Q else Q false st1
def wTOr (a b : WT) : WT := fun e st X Q => a e st X fun c st1 => if c = true then Q true st1 else b e st1 X Q
def wTNot (a : WT) : WT := fun e st X Q => a e st X fun c st1 => Q (!c) st1
/-- an argument list's reading knows its length -/
def tAn (K : PySem.W.Frag) (mg : Str → Option Value) (E : XK) (n : Nat) (m : WA) : TA := fun σ H Q => ∃ B e st Qd Xd, Sit K B e st σ H ∧
  (∀ ds st' vs H', Qd ds st' → ds.length = n → Ext H (mu st B) H' (mu st' B) → StoOk K H' B st' → RepL K H' (mu st' B) ds vs → Q vs H') ∧ PostX K mg B H st Xd E ∧ m e st Xd Qd
section
variable {X : Cx} {E : XK} {a b c : Expr} {ma mb mc : WE} {pos : Pos}
abbrev PEw (X : Cx) (E : XK) (e : Expr) (m : WE) : Prop := PE X e (tE X.K X.mg E m)
abbrev PTw (X : Cx) (E : XK) (e : Expr) (m : WT) : Prop := PT X e (tT X.K X.mg E m)
abbrev PAw (X : Cx) (E : XK) (es : List Expr) (n : Nat) (m : WA) : Prop := PA X es (tAn X.K X.mg E n m)
theorem e_var (i : Nat) {x : Str} (hN : X.N[i]? = some x := by rfl) (hv : Vis X.env.scope x := by first | exact Or.inl rfl | exact Or.inr (Or.inl rfl) | exact Or.inr (Or.inr rfl)) (hd : (x == ("__debug__" : Str)) = false := by decide)
    (hcd : (x == ("__classdict__" : Str)) = false := by decide) : PEw X E (.Name x pos) (wVar i) := pe_imp (pe_var hN hv hd hcd) fun σ H Q ⟨B, e, st, Qd, Xd, S, pq, px, m⟩ => by
  obtain ⟨d, h1, h2⟩ := on_iff.mp m
  have h3 : e[i]? = some (some d) := by
    unfold slot at h1
    rw [List.getD_eq_getElem?_getD] at h1
    cases q : e[i]? with
    | none => rw [q] at h1; cases h1
    | some o => rw [q] at h1; rw [show o = some d from h1]
  obtain ⟨v, h4, r⟩ := S.env.at_ i d h3
  exact ⟨v, h4, pq d st v H h2 .refl S.sto r⟩
theorem e_c {e : Expr} {v : V} {d : D} (h : PE X e (tC v)) (r : ∀ (H : Hp) (M : Mu), Rep X.K H M d v) : PEw X E e (wC d) := pe_imp h fun σ H Q ⟨B, e, st, Qd, Xd, S, pq, px, m⟩ => pq d st v H m .refl S.sto (r _ _)
theorem e_int {i j} : PEw X E (.Constant (.int i) j pos) (wC (.int i)) := e_c pe_int fun _ _ => .int i
theorem e_bl {i j} : PEw X E (.Constant (.bool i) j pos) (wC (.bl i)) := e_c pe_bl fun _ _ => .bl i
theorem e_non {j} : PEw X E (.Constant .none j pos) (wC .non) := e_c pe_non fun _ _ => .non
theorem e_str {x j} (h : okS x = true := by decide +kernel) : PEw X E (.Constant (.str x) j pos) (wC (.str x)) := e_c pe_str fun _ _ => .str x h
theorem bin_ok {r : R2} {o : Sto → D → D → Option D} (ho : OpOk X.K r o) : ∀ σ H Q, tE X.K X.mg E (wBin o ma mb) σ H Q → tOp r (tE X.K X.mg E ma) (tE X.K X.mg E mb) σ H Q :=
  fun σ H Q ⟨B, e, st, Qd, Xd, S, pq, px, m⟩ => ⟨B, e, st, _, Xd, S, fun x st1 vx H1 m1 x1 k1 r1 => ⟨B, e, st1, _, Xd, S.on x1 k1, fun y st2 vy H2 m2 x2 k2 r2 => by
    obtain ⟨d, hd, q⟩ := on_iff.mp m2
    exact ho B H2 st2 vx vy x y d Q k2 (r1.ext x2) r2 hd fun v H' x3 k3 r3 => pq d st2 v H' q ((x1.trans x2).trans x3) k3 r3, px.on x1, m1⟩, px, m⟩
theorem e_bin {op : Operator} {r : R2} {o : Sto → D → D → Option D} (hr : OpR X (binaryOp op) r) (ho : OpOk X.K r o) (ha : PEw X E a ma) (hb : PEw X E b mb) : PEw X E (.BinOp a op b pos) (wBin o ma mb) := pe_imp (pe_op hr ha hb) (bin_ok ho)
theorem e_add (ha : PEw X E a ma) (hb : PEw X E b mb) : PEw X E (.BinOp a .Add b pos) (wBin dAdd ma mb) := e_bin op_addD dAdd_ok ha hb
theorem e_sub (ha : PEw X E a ma) (hb : PEw X E b mb) : PEw X E (.BinOp a .Sub b pos) (wBin dSub ma mb) := e_bin op_sub dSub_ok ha hb
theorem e_mul (ha : PEw X E a ma) (hb : PEw X E b mb) : PEw X E (.BinOp a .Mult b pos) (wBin dMul ma mb) := e_bin op_mulD dMul_ok ha hb
theorem e_fdiv (ha : PEw X E a ma) (hb : PEw X E b mb) : PEw X E (.BinOp a .FloorDiv b pos) (wBin dFdiv ma mb) := e_bin op_fdivW dFdiv_ok ha hb
theorem e_mod (ha : PEw X E a ma) (hb : PEw X E b mb) : PEw X E (.BinOp a .Mod b pos) (wBin dMod ma mb) := e_bin op_mod dMod_ok ha hb
theorem e_pow (ha : PEw X E a ma) (hb : PEw X E b mb) : PEw X E (.BinOp a .Pow b pos) (wBin dPow ma mb) := e_bin op_pow dPow_ok ha hb
theorem e_cmp {op : CmpOp} {r : R2} {o : Sto → D → D → Option D} (hr : OpR X (compareOp op) r) (ho : OpOk X.K r o) (ha : PEw X E a ma) (hb : PEw X E b mb) (hm : behindInMarks op b = false) : PEw X E (.Compare a [op] [b] pos) (wBin o ma mb) := pe_imp (pe_cmpR hr ha hb hm) (bin_ok ho)
theorem e_eq (hu : X.A.units + 65 < cLine) (ha : PEw X E a ma) (hb : PEw X E b mb) : PEw X E (.Compare a [.Eq] [b] pos) (wBin dEq ma mb) := e_cmp (op_eqM hu) dEq_ok ha hb (nomark _)
theorem e_ne (hu : X.A.units + 65 < cLine) (ha : PEw X E a ma) (hb : PEw X E b mb) : PEw X E (.Compare a [.NotEq] [b] pos) (wBin dNe ma mb) := e_cmp (op_neM hu) dNe_ok ha hb (nomark _)
theorem e_gt (ha : PEw X E a ma) (hb : PEw X E b mb) : PEw X E (.Compare a [.Gt] [b] pos) (wBin dGt ma mb) := e_cmp op_gt dGt_ok ha hb (nomark _)
theorem e_ge (ha : PEw X E a ma) (hb : PEw X E b mb) : PEw X E (.Compare a [.GtE] [b] pos) (wBin dGe ma mb) := e_cmp op_ge dGe_ok ha hb (nomark _)
theorem e_is (ha : PEw X E a ma) (hb : PEw X E b mb) : PEw X E (.Compare a [.Is] [b] pos) (wBin dIs ma mb) := e_cmp op_isN dIs_ok ha hb (nomark _)
theorem e_in (hu : X.A.units + 65 < cLine) (ha : PEw X E a ma) (hb : PEw X E b mb) (hm : behindInMarks .In b = false := by rfl) : PEw X E (.Compare a [.In] [b] pos) (wBin dIn ma mb) := e_cmp (op_inW hu) dIn_ok ha hb hm
theorem chain_ok {r r' : R2} {o o' : Sto → D → D → Option D} (ho : OpOk X.K r o) (ho' : OpOk X.K r' o') : ∀ σ H Q, tE X.K X.mg E (wChain o o' ma mb mc) σ H Q → tChain r r' (tE X.K X.mg E ma) (tE X.K X.mg E mb) (tE X.K X.mg E mc) σ H Q :=
  fun σ H Q ⟨B, e, st, Qd, Xd, S, pq, px, m⟩ => ⟨B, e, st, _, Xd, S, fun x st1 vx H1 m1 x1 k1 r1 => ⟨B, e, st1, _, Xd, S.on x1 k1, fun y st2 vy H2 m2 x2 k2 r2 => by
    obtain ⟨z, hz, m3⟩ := on_iff.mp m2
    obtain ⟨t, ht, m4⟩ := on_iff.mp m3
    refine ho B H2 st2 vx vy x y z _ k2 (r1.ext x2) r2 hz fun v H3 x3 k3 r3 => ?_
    have ez : z = .bl t := by cases z <;> cases ht; rfl
    subst ez
    cases r3
    refine ⟨t, rfl, ?_⟩
    cases t with
    | true =>
      rw [if_pos rfl] at m4 ⊢
      refine ⟨B, e, st2, _, Xd, ((S.on x1 k1).on x2 k2).on x3 k3, fun w st4 vw H4 m5 x4 k4 r4 => ?_, ((px.on x1).on x2).on x3, m4⟩
      obtain ⟨u, hu, q⟩ := on_iff.mp m5
      exact ho' B H4 st4 vy vw y w u Q k4 ((r2.ext x3).ext x4) r4 hu fun v5 H5 x5 k5 r5 => pq u st4 v5 H5 q ((((x1.trans x2).trans x3).trans x4).trans x5) k5 r5
    | false =>
      rw [if_neg Bool.false_ne_true] at m4 ⊢
      exact pq _ st2 _ H3 m4 ((x1.trans x2).trans x3) k3 (.bl _), px.on x1, m1⟩, px, m⟩
theorem e_chain {op op' : CmpOp} {r r' : R2} {o o' : Sto → D → D → Option D} (hr : OpR X (compareOp op) r) (ho : OpOk X.K r o) (hr' : OpR X (compareOp op') r') (ho' : OpOk X.K r' o') (ha : PEw X E a ma) (hb : PEw X E b mb) (hc : PEw X E c mc)
    (hm : lastMarks [op, op'] [b, c] = false := by with_unfolding_all rfl) : PEw X E (.Compare a [op, op'] [b, c] pos) (wChain o o' ma mb mc) := pe_imp (pe_chain hr hr' ha hb hc hm) (chain_ok ho ho')
theorem test_ok {t : TE} {m : WE} (h : ∀ σ H Q, tE X.K X.mg E m σ H Q → t σ H Q) : ∀ σ H Q, tT X.K X.mg E (wTB m) σ H Q → tTest t σ H Q :=
  fun σ H Q ⟨B, e, st, Qd, Xd, S, pq, px, m⟩ => h σ H _ ⟨B, e, st, _, Xd, S, fun d st1 v H1 m1 x1 k1 r1 => by
    obtain ⟨b, hb, q⟩ := on_iff.mp m1
    have e : d = .bl b := by cases d <;> cases hb; rfl
    subst e
    cases r1
    exact ⟨b, rfl, pq b st1 H1 q x1 k1⟩, px, m⟩
theorem t_cmp {op : CmpOp} {r : R2} {o : Sto → D → D → Option D} (hr : OpR X (compareOp op) r) (ho : OpOk X.K r o) (ha : PEw X E a ma) (hb : PEw X E b mb) (hm : behindInMarks op b = false) : PTw X E (.Compare a [op] [b] pos) (wTB (wBin o ma mb)) := pt_imp (pt_cmpR hr ha hb hm) (test_ok (bin_ok ho))
theorem t_eq (hu : X.A.units + 65 < cLine) (ha : PEw X E a ma) (hb : PEw X E b mb) : PTw X E (.Compare a [.Eq] [b] pos) (wTB (wBin dEq ma mb)) := t_cmp (op_eqM hu) dEq_ok ha hb (nomark _)
theorem t_ne (hu : X.A.units + 65 < cLine) (ha : PEw X E a ma) (hb : PEw X E b mb) : PTw X E (.Compare a [.NotEq] [b] pos) (wTB (wBin dNe ma mb)) := t_cmp (op_neM hu) dNe_ok ha hb (nomark _)
theorem t_lt (ha : PEw X E a ma) (hb : PEw X E b mb) : PTw X E (.Compare a [.Lt] [b] pos) (wTB (wBin dLt ma mb)) := t_cmp op_ltD dLt_ok ha hb (nomark _)
theorem t_gt (ha : PEw X E a ma) (hb : PEw X E b mb) : PTw X E (.Compare a [.Gt] [b] pos) (wTB (wBin dGt ma mb)) := t_cmp op_gt dGt_ok ha hb (nomark _)
theorem t_ge (ha : PEw X E a ma) (hb : PEw X E b mb) : PTw X E (.Compare a [.GtE] [b] pos) (wTB (wBin dGe ma mb)) := t_cmp op_ge dGe_ok ha hb (nomark _)
theorem t_isnt (ha : PEw X E a ma) (hb : PEw X E b mb) : PTw X E (.Compare a [.IsNot] [b] pos) (wTB (wBin dIsNot ma mb)) := t_cmp op_notN dIsNot_ok ha hb (nomark _)
theorem t_in (hu : X.A.units + 65 < cLine) (ha : PEw X E a ma) (hb : PEw X E b mb) (hm : behindInMarks .In b = false := by rfl) : PTw X E (.Compare a [.In] [b] pos) (wTB (wBin dIn ma mb)) := t_cmp (op_inW hu) dIn_ok ha hb hm
theorem t_nin (hu : X.A.units + 65 < cLine) (ha : PEw X E a ma) (hb : PEw X E b mb) (hm : behindInMarks .NotIn b = false := by rfl) : PTw X E (.Compare a [.NotIn] [b] pos) (wTB (wBin dNotIn ma mb)) := t_cmp (op_notInW hu) dNotIn_ok ha hb hm
theorem t_chain {op op' : CmpOp} {r r' : R2} {o o' : Sto → D → D → Option D} (hr : OpR X (compareOp op) r) (ho : OpOk X.K r o) (hr' : OpR X (compareOp op') r') (ho' : OpOk X.K r' o') (ha : PEw X E a ma) (hb : PEw X E b mb) (hc : PEw X E c mc)
    (hm : lastMarks [op, op'] [b, c] = false := by with_unfolding_all rfl) : PTw X E (.Compare a [op, op'] [b, c] pos) (wTB (wChain o o' ma mb mc)) := pt_imp (pt_chain hr hr' ha hb hc hm) (test_ok (chain_ok ho ho'))
/-- any other expression as a test, by its truth -/
theorem t_tru (ha : PEw X E a ma) (he : ∀ whole, isTrue a X.env whole = (do let v ← whole; standAt a.pos; holding [v] (truthy v)) := by intro _; rfl) : PTw X E a (wTT ma) := pt_imp (pt_truth ha he) fun σ H Q ⟨B, e, st, Qd, Xd, S, pq, px, m⟩ =>
  ⟨B, e, st, _, Xd, S, fun d st1 v H1 m1 x1 k1 r1 => by
    obtain ⟨b, hb, q⟩ := on_iff.mp m1
    exact ⟨b, truth_ok k1 r1 hb, pq b st1 H1 q x1 k1⟩, px, m⟩
theorem t_not {t : WT} (h : PTw X E a t) : PTw X E (.UnaryOp .Not a pos) (wTNot t) := pt_imp (pt_not h) fun σ H Q ⟨B, e, st, Qd, Xd, S, pq, px, m⟩ => ⟨B, e, st, _, Xd, S, fun b st1 H1 m1 x1 k1 => pq _ st1 H1 m1 x1 k1, px, m⟩
abbrev PWw (X : Cx) (E : XK) (e : Expr) (m : WT) : Prop := PW X e (tT X.K X.mg E m)
theorem pw_imp {e : Expr} {t t' : TT} (h : PW X e t) (i : ∀ σ H Q, t' σ H Q → t σ H Q) : PW X e t' := ⟨fun wh pins s σ H Q I q => h.run wh pins s σ H Q I (i _ _ _ q)⟩
theorem w_and1 {t : WT} (h : PTw X E a t) : PWw X E (.BoolOp .And [a] pos) t := pw_and1 h
theorem w_or1 {t : WT} (h : PTw X E a t) : PWw X E (.BoolOp .Or [a] pos) t := pw_or1 h
theorem w_and {t u : WT} {rest : List Expr} (h : PTw X E a t) (h2 : PWw X E (.BoolOp .And (b :: rest) pos) u) : PWw X E (.BoolOp .And (a :: b :: rest) pos) (wTAnd t u) := pw_imp (pw_and h h2) fun σ H Q ⟨B, e, st, Qd, Xd, S, pq, px, m⟩ =>
  ⟨B, e, st, _, Xd, S, fun c st1 H1 m1 x1 k1 => by
    cases c with
    | true =>
      rw [if_pos rfl] at m1 ⊢
      exact ⟨B, e, st1, _, Xd, S.on x1 k1, fun c st2 H2 m2 x2 k2 => pq c st2 H2 m2 (x1.trans x2) k2, px.on x1, m1⟩
    | false =>
      rw [if_neg Bool.false_ne_true] at m1 ⊢
      exact pq _ st1 H1 m1 x1 k1, px, m⟩
theorem w_or {t u : WT} {rest : List Expr} (h : PTw X E a t) (h2 : PWw X E (.BoolOp .Or (b :: rest) pos) u) : PWw X E (.BoolOp .Or (a :: b :: rest) pos) (wTOr t u) := pw_imp (pw_or h h2) fun σ H Q ⟨B, e, st, Qd, Xd, S, pq, px, m⟩ =>
  ⟨B, e, st, _, Xd, S, fun c st1 H1 m1 x1 k1 => by
    cases c with
    | false =>
      rw [if_neg Bool.false_ne_true] at m1 ⊢
      exact ⟨B, e, st1, _, Xd, S.on x1 k1, fun c st2 H2 m2 x2 k2 => pq c st2 H2 m2 (x1.trans x2) k2, px.on x1, m1⟩
    | true =>
      rw [if_pos rfl] at m1 ⊢
      exact pq _ st1 H1 m1 x1 k1, px, m⟩
theorem t_w {t : WT} (h : PWw X E a t) : PTw X E a t := h.pt
theorem e_one {op} (h : PEw X E a ma) : PEw X E (.BoolOp op [a] pos) ma := pe_one h
theorem e_or {rest : List Expr} (ha : PEw X E a ma) (hb : PEw X E (.BoolOp .Or (b :: rest) pos) mb) : PEw X E (.BoolOp .Or (a :: b :: rest) pos) (wOr ma mb) := pe_imp (pe_orT ha hb) fun σ H Q ⟨B, e, st, Qd, Xd, S, pq, px, m⟩ =>
  ⟨B, e, st, _, Xd, S, fun d st1 v H1 m1 x1 k1 r1 => by
    obtain ⟨t, ht, q⟩ := on_iff.mp m1
    refine ⟨t, truth_ok k1 r1 ht, ?_⟩
    cases t with
    | true =>
      rw [if_pos rfl] at q ⊢
      exact pq d st1 v H1 q x1 k1 r1
    | false =>
      rw [if_neg Bool.false_ne_true] at q ⊢
      exact ⟨B, e, st1, _, Xd, S.on x1 k1, pq.on x1, px.on x1, q⟩, px, m⟩
theorem e_and {rest : List Expr} (ha : PEw X E a ma) (hb : PEw X E (.BoolOp .And (b :: rest) pos) mb) : PEw X E (.BoolOp .And (a :: b :: rest) pos) (wAnd ma mb) := pe_imp (pe_andT ha hb) fun σ H Q ⟨B, e, st, Qd, Xd, S, pq, px, m⟩ =>
  ⟨B, e, st, _, Xd, S, fun d st1 v H1 m1 x1 k1 r1 => by
    obtain ⟨t, ht, q⟩ := on_iff.mp m1
    refine ⟨t, truth_ok k1 r1 ht, ?_⟩
    cases t with
    | false =>
      rw [if_neg Bool.false_ne_true] at q ⊢
      exact pq d st1 v H1 q x1 k1 r1
    | true =>
      rw [if_pos rfl] at q ⊢
      exact ⟨B, e, st1, _, Xd, S.on x1 k1, pq.on x1, px.on x1, q⟩, px, m⟩
theorem e_not (ha : PEw X E a ma) : PEw X E (.UnaryOp .Not a pos) (wNot ma) := pe_imp (pe_notT ha) fun σ H Q ⟨B, e, st, Qd, Xd, S, pq, px, m⟩ =>
  ⟨B, e, st, _, Xd, S, fun d st1 v H1 m1 x1 k1 r1 => by
    obtain ⟨t, ht, q⟩ := on_iff.mp m1
    exact ⟨t, truth_ok k1 r1 ht, pq _ st1 _ H1 q x1 k1 (.bl _)⟩, px, m⟩
def dNeg (_ : Sto) : D → Option D
  | .int i => some (.int (-i))
  | _ => none
theorem e_ix (hu : X.A.units + 65 < cLine) (ha : PEw X E a ma) (hb : PEw X E b mb) (hs : PlainIx b := by exact fun _ _ => rfl) : PEw X E (.Subscript a b pos) (wBin ixD ma mb) := pe_imp (pe_ix (ix_W hu) ha hb hs) (bin_ok ixD_ok)
def tO (K : PySem.W.Frag) (mg : Str → Option Value) (E : XK) (m : WO) : TO := fun σ H Q => ∃ B e st Qd Xd, Sit K B e st σ H ∧
  (∀ o st' H', Qd o st' → Ext H (mu st B) H' (mu st' B) → StoOk K H' B st' → Q o H') ∧ PostX K mg B H st Xd E ∧ m e st Xd Qd
theorem po_imp {o : Option Expr} {t t' : TO} (h : PO X o t) (i : ∀ σ H Q, t' σ H Q → t σ H Q) : PO X o t' := ⟨fun pins s σ H Q I q => h.run pins s σ H Q I (i _ _ _ q)⟩
theorem o_no : PO X none (tO X.K X.mg E wNo) := po_imp po_none fun σ H Q ⟨B, e, st, Qd, Xd, S, pq, px, m⟩ => pq none st H m .refl S.sto
theorem o_part (h : PEw X E a ma) : PO X (some a) (tO X.K X.mg E (wPart ma)) := po_imp (po_some h) fun σ H Q ⟨B, e, st, Qd, Xd, S, pq, px, m⟩ => ⟨B, e, st, _, Xd, S, fun d st1 v H1 m1 x1 k1 r1 => by
  obtain ⟨i, hi, q⟩ := on_iff.mp m1
  have ed : d = .int i := by cases d <;> cases hi; rfl
  subst ed
  cases r1
  exact ⟨i, rfl, pq (some i) st1 H1 q x1 k1⟩, px, m⟩
theorem e_sl {p2 : Pos} {lo hi : Option Expr} {ml mh : WO} (ha : PEw X E a ma) (hl : PO X lo (tO X.K X.mg E ml)) (hh : PO X hi (tO X.K X.mg E mh)) : PEw X E (.Subscript a (.Slice lo hi none p2) pos) (wSl ma ml mh) :=
  pe_imp (pe_slice sl_W ha hl hh) fun σ H Q ⟨B, e, st, Qd, Xd, S, pq, px, m⟩ => ⟨B, e, st, _, Xd, S, fun x st1 vx H1 m1 x1 k1 r1 => ⟨B, e, st1, _, Xd, S.on x1 k1, fun l st2 H2 m2 x2 k2 =>
    ⟨B, e, st2, _, Xd, (S.on x1 k1).on x2 k2, fun h st3 H3 m3 x3 k3 => by
      obtain ⟨d, hd, q⟩ := on_iff.mp m3
      exact slD_ok k3 ((r1.ext x2).ext x3) hd fun v H' x4 k4 r4 => pq d st3 v H' q (((x1.trans x2).trans x3).trans x4) k4 r4, (px.on x1).on x2, m2⟩, px.on x1, m1⟩, px, m⟩
/-- xs[::-1] of a list -/
def dRev (st : Sto) (x : D) : Option D := (lsOf st x).map fun ds => .lst ds.reverse
theorem e_rev {k : Nat} {p1 p2 p3 : Pos} (ha : PEw X E a ma) : PEw X E (.Subscript a (.Slice none none (some (.UnaryOp .USub (.Constant (.int 1) k p1) p2)) p3) pos) (wUn dRev ma) := pe_imp (pe_revL ha) fun σ H Q ⟨B, e, st, Qd, Xd, S, pq, px, m⟩ =>
  ⟨B, e, st, _, Xd, S, fun d st1 v H1 m1 x1 k1 r1 => by
    obtain ⟨t, ht, q⟩ := on_iff.mp m1
    obtain ⟨ds, h1, rfl⟩ := Option.map_eq_some_iff.mp ht
    obtain ⟨a, vs, rfl, h, r, z⟩ := ls_of k1 r1 h1
    refine ⟨a, vs, rfl, .inl h, fun p hp => ?_⟩
    obtain ⟨x2, k2, r2⟩ := new_lst k1 hp r.reverse (by rw [List.length_reverse]; exact z)
    exact pq _ st1 _ _ q (x1.trans x2) k2 r2, px, m⟩
theorem a_nil : PAw X E [] 0 wNil := pa_imp pa_nil fun σ H Q ⟨B, e, st, Qd, Xd, S, pq, px, m⟩ => pq [] st [] H m rfl .refl S.sto .nil
theorem a_cons {es : List Expr} {n : Nat} {r : WA} (ha : PEw X E a ma) (hr : PAw X E es n r) (hs : starEach (a :: es) X.env = (false, eval a X.env) :: starEach es X.env := by rfl) : PAw X E (a :: es) (n + 1) (wCons ma r) :=
  pa_imp (pa_cons ha hr hs) fun σ H Q ⟨B, e, st, Qd, Xd, S, pq, px, m⟩ => ⟨B, e, st, _, Xd, S, fun x st1 vx H1 m1 x1 k1 r1 => ⟨B, e, st1, _, Xd, S.on x1 k1, fun ds st2 vs H2 m2 l2 x2 k2 r2 =>
    pq (x :: ds) st2 (vx :: vs) H2 m2 (by rw [List.length_cons, l2]) (x1.trans x2) k2 (.cons (r1.ext x2) r2), px.on x1, m1⟩, px, m⟩
variable {es : List Expr} {n : Nat} {m : WA}
theorem le_size {n : Nat} (h : n ≤ 1000) : n ≤ sizeLine := Nat.le_trans h (by decide)
theorem e_tup {x1} (h : PAw X E es n m) (hn : n ≤ 1000 := by decide) : PEw X E (.Tuple es x1 pos) (wTup m) := pe_imp (pe_tup h) fun σ H Q ⟨B, e, st, Qd, Xd, S, pq, px, m⟩ => ⟨B, e, st, _, Xd, S, fun ds st1 vs H1 m1 l1 x1 k1 r1 =>
  have z : ds.length ≤ sizeLine := by rw [l1]; exact le_size hn
  ⟨by rw [r1.length]; exact z, fun p hp => let ⟨x2, k2, r2⟩ := new_tup k1 hp r1 z; pq _ st1 _ _ m1 (x1.trans x2) k2 r2⟩, px, m⟩
theorem e_lst (h : PAw X E es n m) (hn : n ≤ 1000 := by decide) : PEw X E (.List es pos) (wLst m) := pe_imp (pe_lst h) fun σ H Q ⟨B, e, st, Qd, Xd, S, pq, px, m⟩ => ⟨B, e, st, _, Xd, S, fun ds st1 vs H1 m1 l1 x1 k1 r1 =>
  have z : ds.length ≤ sizeLine := by rw [l1]; exact le_size hn
  ⟨by rw [r1.length]; exact z, fun p hp => let ⟨x2, k2, r2⟩ := new_lst k1 hp r1 z; pq _ st1 _ _ m1 (x1.trans x2) k2 r2⟩, px, m⟩
theorem e_lstR (h : PAw X E es n m) (hn : n ≤ 1000 := by decide) : PEw X E (.List es pos) (wLstR m) := pe_imp (pe_lst h) fun σ H Q ⟨B, e, st, Qd, Xd, S, pq, px, m⟩ => ⟨B, e, st, _, Xd, S, fun ds st1 vs H1 m1 l1 x1 k1 r1 =>
  have z : ds.length ≤ sizeLine := by rw [l1]; exact le_size hn
  ⟨by rw [r1.length]; exact z, fun p hp => let ⟨k2, x2⟩ := k1.put (c := .lst ds) (o := .lst vs) hp ⟨r1, z⟩; pq _ _ _ _ (m1 p (k1.none_ hp)) (x1.trans x2) k2 (.ref p)⟩, px, m⟩
theorem call_ok {r : List V → Hp → VK → Prop} {o : Sto → List D → Option D} (ho : CaOk X.K r o) : ∀ σ H Q, tE X.K X.mg E (wCall o m) σ H Q → tCB r (tAn X.K X.mg E n m) σ H Q :=
  fun σ H Q ⟨B, e, st, Qd, Xd, S, pq, px, mm⟩ => ⟨B, e, st, _, Xd, S, fun ds st1 vs H1 m1 l1 x1 k1 r1 => by
    obtain ⟨d, hd, q⟩ := on_iff.mp m1
    exact ho B H1 st1 vs ds d Q k1 r1 hd fun v H' x3 k3 r3 => pq d st1 v H' q (x1.trans x3) k3 r3, px, mm⟩
section
variable {x : Str} {p : Pos} {id T : String}
theorem e_cb {r : List V → Hp → VK → Prop} {o : Sto → List D → Option D} (hc : CallR X (.builtin id) r) (ho : CaOk X.K r o) (hg : Gl X x) (hm : X.mg x = none) (hv : bootBuiltins x = some (.builtin id)) (ha : PAw X E (a :: es) n m) (hn : x ≠ "__name__" := by decide) (hdb : (x == ("__debug__" : Str)) = false := by decide)
    (he : starEach (a :: es) X.env = (false, eval a X.env) :: starEach es X.env := by rfl) (hpl : (backTo pos (starEach es X.env)).any (·.1) = false := by rfl) : PEw X E (.Call (.Name x p) (a :: es) [] pos) (wCall o m) :=
  pe_imp (pe_callB hc hg hm hv ha hn hdb he hpl) (call_ok ho)
theorem e_ct {r : List V → Hp → VK → Prop} {o : Sto → List D → Option D} (hc : CallR X (.type T) r) (ho : CaOk X.K r o) (hg : Gl X x) (hm : X.mg x = none) (hv : bootBuiltins x = some (.type T)) (ha : PAw X E (a :: es) n m) (hn : x ≠ "__name__" := by decide) (hdb : (x == ("__debug__" : Str)) = false := by decide)
    (he : starEach (a :: es) X.env = (false, eval a X.env) :: starEach es X.env := by rfl) (hpl : (backTo pos (starEach es X.env)).any (·.1) = false := by rfl) : PEw X E (.Call (.Name x p) (a :: es) [] pos) (wCall o m) :=
  pe_imp (pe_callTy hc hg hm hv ha hn hdb he hpl) (call_ok ho)
/-- f(e, ..), an own def -/
theorem fn_ok {F : WF} : ∀ σ H Q, tE X.K X.mg E (wFn F m) σ H Q → tCall (spF X.K X.mg n F) [] E (tAn X.K X.mg E n m) σ H Q :=
  fun σ H Q ⟨B, e, st, Qd, Xd, S, pq, px, mm⟩ => ⟨B, e, st, _, Xd, S, fun ds st1 vs H1 m1 l1 x1 k1 r1 => ⟨B, ds, st1, Qd, Xd, by rw [List.append_nil, r1.length, l1], k1, by rw [List.append_nil]; exact r1, pq.on x1, px.on x1, m1⟩, px, mm⟩
theorem e_fn {CX : CXT} {k : Nat} {f : Addr} {fd : FuncData} {ps : List Str} {F : WF} (G : FnOk X.prog X.w X.K X.mg X.base CX k f fd ps (spF X.K X.mg n F)) (hr : Room k X.A) (hg : Gl X x) (hm : X.mg x = some (.ref f)) (hk : PySem.W.keepIn X.K (.ref f) = true) (hb : Binds X.K fd ps []) (hx : Passes CX X E)
    (ha : PAw X E (a :: es) n m) (hdb : (x == ("__debug__" : Str)) = false := by decide) (he : starEach (a :: es) X.env = (false, eval a X.env) :: starEach es X.env := by rfl) (hpl : (backTo pos (starEach es X.env)).any (·.1) = false := by rfl) :
    PEw X E (.Call (.Name x p) (a :: es) [] pos) (wFn F m) := pe_imp (pe_call G hr hg hm hk hb .nil hx ha hdb he hpl) fn_ok
end
end
end DL
namespace DL
open PySem PySem.Spec PyProof.Rows L2
def wSkip : WS := fun E e st => E.nx e st
def wSeq (a b : WS) : WS := fun E e st => a { E with nx := b E } e st
def wSet (i : Nat) (m : WE) : WS := fun E e st => m e st E.ex fun d st1 => E.nx (e.set i (some d)) st1
def wDrop (m : WE) : WS := fun E e st => m e st E.ex fun _ st1 => E.nx e st1
def wRet (m : WE) : WS := fun E e st => m e st E.ex E.rt
def wIfS (t : WT) (a b : WS) : WS := fun E e st => t e st E.ex fun c st1 => if c = true then a E e st1 else b E e st1
inductive Tg where
  | nm (i : Nat) | tp (ts : List Tg)
mutual
def asg : Tg → D → Env → Option Env
  | .nm i, d, e => some (e.set i (some d))
  | .tp ts, d, e => (tpOf d).bind fun ds => asgs ts ds e
def asgs : List Tg → List D → Env → Option Env
  | [], [], e => some e
  | t :: ts, d :: ds, e => (asg t d e).bind fun e1 => asgs ts ds e1
  | _, _, _ => none
end
mutual
def Tg.slots : Tg → List Nat
  | .nm i => [i]
  | .tp ts => slotsL ts
def slotsL : List Tg → List Nat
  | [] => []
  | t :: ts => t.slots ++ slotsL ts
end
def wAsg (t : Tg) (m : WE) : WS := fun E e st => m e st E.ex fun d st1 => on (asg t d e) fun e1 => E.nx e1 st1
/-- o[i] = v -/
def putL (ds : List D) (i : Int) (v : D) : Option (List D) := (ixN ds.length i).map fun j => ds.set j v
def putKD {κ : Type} [DecidableEq κ] (kvs : List (κ × D)) (k : κ) (v : D) : List (κ × D) :=
  if kvs.any (fun kv => decide (kv.1 = k)) then kvs.map (fun kv => if kv.1 = k then (kv.1, v) else kv) else kvs ++ [(k, v)]
def putD (st : Sto) (o i v : D) : Option Sto := match o with
  | .ref a => match st a with
    | some (.lst ds) => match i with | .int k => (putL ds k v).map fun ds' => st.set a (.lst ds') | _ => none
    | some (.dk kvs) => (keyOf i).bind fun k => if kvs.length < sizeLine then some (st.set a (.dk (putKD kvs k v))) else none
    | some (.dt kvs) => (tkeyOf i).bind fun k => if kvs.length < sizeLine then some (st.set a (.dt (putKD kvs k v))) else none
    | _ => none
  | _ => none
def wPut (o i v : WE) : WS := fun E e st => v e st E.ex fun dv st1 => o e st1 E.ex fun x st2 => i e st2 E.ex fun k st3 => on (putD st3 x k dv) fun st4 => E.nx e st4
section
variable {X : Cx} {E : XK} {a b c : Expr} {ma mb mc : WE} {pos : Pos} {s1 : Stmt} {ss : List Stmt} {m1 m2 : WS}
abbrev PSw (X : Cx) (E : XK) (s : Stmt) (m : WS) : Prop := PS X s (tS X.K X.mg E m)
abbrev PBw (X : Cx) (E : XK) (ss : List Stmt) (m : WS) : Prop := PSs X ss (tS X.K X.mg E m)
theorem b_nil : PBw X E [] wSkip := pss_imp pss_nil fun D σ H ⟨B, e, st, W, S, k, m⟩ => k.nx e st σ H m S .refl
theorem b_one (h : PSw X E s1 m1) : PBw X E [s1] m1 := pss_one h
theorem b_cons (h1 : PSw X E s1 m1) (h2 : PBw X E ss m2) : PBw X E (s1 :: ss) (wSeq m1 m2) := pss_imp (pss_cons h1 h2) fun D σ H ⟨B, e, st, W, S, k, m⟩ =>
  ⟨B, e, st, { W with nx := m2 W }, S, ⟨fun e' st' σ' H' n S' x => ⟨B, e', st', W, S', k.on x, n⟩, k.rt, k.ex, k.bk, k.ct⟩, m⟩
theorem s_ret (h : PEw X E a ma) : PSw X E (.Return (some a) pos) (wRet ma) := ps_imp (ps_ret h) fun D σ H ⟨B, e, st, W, S, k, m⟩ => ⟨B, e, st, W.rt, W.ex, S, k.rt, k.ex, m⟩
theorem drop_ok : ∀ D σ H, tS X.K X.mg E (wDrop ma) D σ H → L2.tDrop (tE X.K X.mg E ma) D σ H := fun D σ H ⟨B, e, st, W, S, k, m⟩ => ⟨B, e, st, _, W.ex, S, fun d st1 v H1 n x1 k1 r1 => k.nx e st1 σ H1 n (S.on x1 k1) x1, k.ex, m⟩
theorem s_expr (h : PEw X E a ma) (hs : swapsWith a none pos.line X.env = pure false := by rfl) : PSw X E (.Expr a pos) (wDrop ma) := ps_imp (ps_expr h hs) drop_ok
theorem set_ok {t : TE} {i : Nat} (h : ∀ σ H Q, tE X.K X.mg E ma σ H Q → t σ H Q) : ∀ D σ H, tS X.K X.mg E (wSet i ma) D σ H → tAsg t (gName i) D σ H := fun D σ H ⟨B, e, st, W, S, k, m⟩ =>
  h σ H _ ⟨B, e, st, _, W.ex, S, fun d st1 v H1 n x1 k1 r1 => k.nx _ st1 _ H1 n ⟨(S.env.ext x1).set i r1, k1⟩ x1, k.ex, m⟩
theorem s_set (i : Nat) {x : Str} {pos' : Pos} (hN : X.N.Nodup) (h : PEw X E a ma) (hi : X.N[i]? = some x := by rfl) (hx : Loc X.env.scope x := by first | exact Or.inl rfl | exact Or.inr rfl)
    (hs : swapsWith a (some (.Name x pos')) pos.line X.env = pure false := by rfl) (hf : X.fn x = true ∨ X.env.scope.names.lookup x = some .local := by first | exact .inl rfl | exact .inr rfl | assumption) : PSw X E (.Assign [.Name x pos'] a pos) (wSet i ma) :=
  ps_imp (ps_set hN hi hx h hs hf) (set_ok fun _ _ _ h => h)
theorem s_if {t : WT} {as bs : List Stmt} (ht : PTw X E c t) (ha : PBw X E as m1) (hb : PBw X E bs m2) : PSw X E (.If c as bs pos) (wIfS t m1 m2) := ps_imp (ps_if ht ha hb) fun D σ H ⟨B, e, st, W, S, k, m⟩ =>
  ⟨B, e, st, _, W.ex, S, fun c st1 H1 n x1 k1 => by
    cases c with
    | true =>
      rw [if_pos rfl] at n ⊢
      exact ⟨B, e, st1, W, S.on x1 k1, k.on x1, n⟩
    | false =>
      rw [if_neg Bool.false_ne_true] at n ⊢
      exact ⟨B, e, st1, W, S.on x1 k1, k.on x1, n⟩, k.ex, m⟩
def Outs (ss : List Nat) (σ σ' : L2.St) : Prop := σ'.length = σ.length ∧ ∀ i, i ∉ ss → σ'[i]? = σ[i]?
def tG (K : PySem.W.Frag) (t : Tg) : TG := fun v σ H Q => ∃ B e st d Qd, Sit K B e st σ H ∧ Rep K H (mu st B) d v ∧ (∀ e' σ', Qd e' → Sit K B e' st σ' H → Outs t.slots σ σ' → Q σ' H) ∧ on (asg t d e) Qd
def tGs (K : PySem.W.Frag) (ts : List Tg) : TGs := fun vs σ H Q => ∃ B e st ds Qd, Sit K B e st σ H ∧ RepL K H (mu st B) ds vs ∧ (∀ e' σ', Qd e' → Sit K B e' st σ' H → Outs (slotsL ts) σ σ' → Q σ' H) ∧ on (asgs ts ds e) Qd
theorem pg_imp {e : Expr} {t t' : TG} (h : PG X e t) (i : ∀ v σ H Q, t' v σ H Q → t v σ H Q) : PG X e t' := ⟨fun pins s σ H v u Q I r q => h.run pins s σ H v u Q I r (i _ _ _ _ q)⟩
theorem pgs_imp {e : List Expr} {t t' : TGs} (h : PGs X e t) (i : ∀ v σ H Q, t' v σ H Q → t v σ H Q) : PGs X e t' := ⟨fun pins s σ H v u Q I r q => h.run pins s σ H v u Q I r (i _ _ _ _ q)⟩
abbrev PGw (X : Cx) (e : Expr) (t : Tg) : Prop := PG X e (tG X.K t)
abbrev PGsw (X : Cx) (e : List Expr) (t : List Tg) : Prop := PGs X e (tGs X.K t)
theorem g_nm (i : Nat) {x : Str} (hN : X.N.Nodup) (hi : X.N[i]? = some x := by rfl) (hx : Loc X.env.scope x := by first | exact Or.inl rfl | exact Or.inr rfl) (hf : X.fn x = true ∨ X.env.scope.names.lookup x = some .local := by first | exact .inl rfl | exact .inr rfl | assumption) :
    PGw X (.Name x pos) (.nm i) := pg_imp (pg_name hN hi hx hf) fun v σ H Q ⟨B, e, st, d, Qd, S, r, q, m⟩ => q _ _ m ⟨S.env.set i r, S.sto⟩ ⟨by rw [List.length_set], fun j hj => by
      rw [List.getElem?_set_ne]
      intro z
      subst z
      exact hj (by unfold Tg.slots; exact List.mem_singleton_self _)⟩
theorem gs_nil : PGsw X [] [] := pgs_imp pgs_nil fun vs σ H Q ⟨B, e, st, ds, Qd, S, r, q, m⟩ => by
  cases r with
  | nil => exact ⟨rfl, q e σ m S ⟨rfl, fun _ _ => rfl⟩⟩
  | cons _ _ => unfold asgs at m; exact m.elim
theorem gs_cons {t : Tg} {ts : List Tg} {es : List Expr} (h1 : PGw X a t) (h2 : PGsw X es ts) (hs : (assignEach (a :: es) X.env).map (·.2) = assign a X.env :: (assignEach es X.env).map (·.2) := by rfl) : PGsw X (a :: es) (t :: ts) :=
  pgs_imp (pgs_cons h1 h2 hs) fun vs σ H Q ⟨B, e, st, ds, Qd, S, r, q, m⟩ => by
    cases r with
    | nil => unfold asgs at m; exact m.elim
    | @cons d v ds vs r rr =>
      unfold asgs at m
      obtain ⟨e2, h3, m⟩ := on_iff.mp m
      obtain ⟨e1, h4, h5⟩ := Option.bind_eq_some_iff.mp h3
      refine ⟨v, vs, rfl, B, e, st, d, fun x => x = e1, S, r, fun e' σ' ee S' o => ?_, on_iff.mpr ⟨e1, h4, rfl⟩⟩
      subst ee
      refine ⟨B, e', st, ds, Qd, S', rr, fun e3 σ3 q3 S3 o3 => q e3 σ3 q3 S3 ⟨o3.1.trans o.1, fun i hi => ?_⟩, on_iff.mpr ⟨e2, h5, m⟩⟩
      have : i ∉ t.slots ∧ i ∉ slotsL ts := by
        unfold slotsL at hi
        rw [List.mem_append] at hi
        exact ⟨fun z => hi (.inl z), fun z => hi (.inr z)⟩
      rw [o3.2 i this.2, o.2 i this.1]
theorem asgs_len : ∀ {ts : List Tg} {ds : List D} {e e' : Env}, asgs ts ds e = some e' → ds.length = ts.length
  | [], [], _, _, _ => rfl
  | [], _ :: _, _, _, h => by unfold asgs at h; cases h
  | _ :: _, [], _, _, h => by unfold asgs at h; cases h
  | t :: ts, d :: ds, e, e', h => by
    unfold asgs at h
    obtain ⟨e1, _, h5⟩ := Option.bind_eq_some_iff.mp h
    rw [List.length_cons, List.length_cons, asgs_len h5]
theorem g_tp {ts : List Tg} {es : List Expr} {k : Nat} (hc : X.calm = true) (h : PGsw X es ts) (hn : (assignEach es X.env).length = ts.length := by rfl) (hst : (assignEach es X.env).findIdx? (·.1) = none := by rfl) : PGw X (.Tuple es k pos) (.tp ts) :=
  pg_imp (pg_tup hc h hn hst) fun v σ H Q ⟨B, e, st, d, Qd, S, r, q, m⟩ => by
    obtain ⟨e1, h1, m⟩ := on_iff.mp m
    unfold asg at h1
    obtain ⟨ds, h2, h3⟩ := Option.bind_eq_some_iff.mp h1
    obtain ⟨a, vs, rfl, hs, r2, z⟩ := tp_of r h2
    exact ⟨a, vs, rfl, hs, by rw [r2.length, asgs_len h3], B, e, st, ds, Qd, S, r2, fun e' σ' q' S' o => q e' σ' q' S' o, on_iff.mpr ⟨e1, h3, m⟩⟩
theorem any_fst {κ α β : Type} [DecidableEq κ] {kvs : List (κ × α)} {ws : List (κ × β)} (k : κ) (e : ws.map (·.1) = kvs.map (·.1)) : (ws.any fun kv => decide (kv.1 = k)) = kvs.any fun kv => decide (kv.1 = k) := by
  have h : ∀ {γ : Type} (l : List (κ × γ)), (l.any fun kv => decide (kv.1 = k)) = (l.map (·.1)).any fun x => decide (x = k) := fun l => by rw [List.any_map]; rfl
  rw [h, h, e]
theorem fst_map {κ α : Type} [DecidableEq κ] (k : κ) (v : α) (l : List (κ × α)) : (l.map fun kv => if kv.1 = k then (kv.1, v) else kv).map (·.1) = l.map (·.1) := by
  rw [List.map_map]
  refine List.map_congr_left fun x _ => ?_
  show (if x.1 = k then (x.1, v) else x).1 = x.1
  split <;> rfl
theorem putKD_fst {κ : Type} [DecidableEq κ] {kvs : List (κ × D)} {ws : List (κ × V)} {k : κ} {d : D} {v : V} (e : ws.map (·.1) = kvs.map (·.1)) : (putK ws k v).map (·.1) = (putKD kvs k d).map (·.1) := by
  unfold putK putKD
  rw [any_fst k e]
  split
  · rw [fst_map, fst_map, e]
  · rw [List.map_append, List.map_append, e]; rfl
theorem putKD_rep {κ : Type} [DecidableEq κ] {K : PySem.W.Frag} {H : Hp} {M : Mu} {d : D} {v : V} (r : Rep K H M d v) {kvs : List (κ × D)} {ws : List (κ × V)} {k : κ} (e : ws.map (·.1) = kvs.map (·.1)) (rr : RepL K H M (kvs.map (·.2)) (ws.map (·.2))) : RepL K H M ((putKD kvs k d).map (·.2)) ((putK ws k v).map (·.2)) := by
  have go : ∀ {kvs : List (κ × D)} {ws : List (κ × V)}, ws.map (·.1) = kvs.map (·.1) → RepL K H M (kvs.map (·.2)) (ws.map (·.2)) →
      RepL K H M ((kvs.map fun kv => if kv.1 = k then (kv.1, d) else kv).map (·.2)) ((ws.map fun kv => if kv.1 = k then (kv.1, v) else kv).map (·.2)) := by
    intro kvs
    induction kvs with
    | nil => intro ws e _; cases ws with
      | nil => exact .nil
      | cons _ _ => simp at e
    | cons p kvs ih => intro ws e rr; cases ws with
      | nil => simp at e
      | cons q ws =>
        simp only [List.map_cons, List.cons.injEq] at e
        rw [List.map_cons, List.map_cons] at rr
        cases rr with
        | cons r1 r2 =>
          have h := ih e.2 r2
          rw [List.map_cons, List.map_cons, List.map_cons, List.map_cons]
          by_cases z : p.1 = k
          · rw [if_pos z, if_pos (e.1.trans z)]; exact .cons r h
          · rw [if_neg z, if_neg (fun y => z (e.1.symm.trans y))]; exact .cons r1 h
  unfold putK putKD
  rw [any_fst k e]
  split
  · exact go e rr
  · rw [List.map_append, List.map_append]; exact rr.append (.cons r .nil)
def rPutW : TSet := fun o i v H Q => rSetL o i v H Q ∨ ∃ a H', o = .ref a ∧ DPut H a i v H' ∧ Q H'
theorem set_W (hu : X.A.units + 65 < cLine) : PSet X rPutW := by
  intro pins s σ H o i v ov iv u Q I ro ri rv h
  rcases h with h | ⟨a, H', rfl, g, q⟩
  · exact set_list pins s σ H o i v ov iv u Q I ro ri rv h
  · cases ro
    exact d_setItem (by omega) I g ri rv fun s4 I4 => ⟨H', I4, q⟩
theorem put_ok {K : PySem.W.Frag} {B : Bz} {H : Hp} {st st' : Sto} {o i v : D} {vo vi vv : V} {Q : Hp → Prop} (k : StoOk K H B st) (ro : Rep K H (mu st B) o vo) (ri : Rep K H (mu st B) i vi) (rv : Rep K H (mu st B) v vv) (e : putD st o i v = some st')
    (q : ∀ H', Ext H (mu st B) H' (mu st' B) → StoOk K H' B st' → Q H') : rPutW vo vi vv H Q := by
  unfold putD at e
  split at e
  · rename_i a
    cases ro
    split at e
    · rename_i ds q1
      split at e
      · obtain ⟨ds', h1, rfl⟩ := Option.map_eq_some_iff.mp e
        obtain ⟨j, h2, rfl⟩ := Option.map_eq_some_iff.mp h1
        obtain ⟨u, e1, r1⟩ := k.at_ a _ q1
        cases u <;> try exact r1.elim
        cases ri
        obtain ⟨k2, x2⟩ := k.write (c := .lst (ds.set j v)) (o := .lst _) q1 ⟨RepL.set rv j r1.1, by rw [List.length_set]; exact r1.2⟩
        exact .inl ⟨a, _, _, j, rfl, rfl, e1, by rw [r1.1.length]; exact h2, q _ x2 k2⟩
      · cases e
    · rename_i kvs q1
      obtain ⟨key, h1, h2⟩ := Option.bind_eq_some_iff.mp e
      split at h2 <;> cases h2
      rename_i hz
      obtain ⟨u, e1, r1⟩ := k.at_ a _ q1
      cases u <;> try exact r1.elim
      rename_i ws
      have hl := congrArg List.length r1.1
      simp only [List.length_map] at hl
      obtain ⟨k2, x2⟩ := k.write (c := .dk (putKD kvs key v)) (o := .dK (putK ws key vv)) q1 ⟨putKD_fst r1.1, putKD_rep rv r1.1 r1.2⟩
      exact .inr ⟨a, _, rfl, .inl ⟨ws, key, e1, key_of_ ri h1, by rw [hl]; exact hz, rfl⟩, q _ x2 k2⟩
    · rename_i kvs q1
      obtain ⟨key, h1, h2⟩ := Option.bind_eq_some_iff.mp e
      split at h2 <;> cases h2
      rename_i hz
      obtain ⟨u, e1, r1⟩ := k.at_ a _ q1
      cases u <;> try exact r1.elim
      rename_i ws
      have hl := congrArg List.length r1.1
      simp only [List.length_map] at hl
      obtain ⟨k2, x2⟩ := k.write (c := .dt (putKD kvs key v)) (o := .dT (putK ws key vv)) q1 ⟨putKD_fst r1.1, putKD_rep rv r1.1 r1.2⟩
      unfold tkeyOf at h1
      split at h1
      · cases ri
        rename_i h r z
        exact .inr ⟨a, _, rfl, .inr ⟨ws, key, _, e1, rfl, by rw [← keys_of r h1]; exact h.2, by rw [hl]; exact hz, rfl⟩, q _ x2 k2⟩
      · cases h1
    · cases e
  · cases e
theorem s_put (hu : X.A.units + 65 < cLine) {p : Pos} (ha : PEw X E a ma) (hb : PEw X E b mb) (hc : PEw X E c mc) (hs : swapsWithSole [.Subscript a b p] c pos.line X.env = pure false := by rfl) (hw : swappedStores [.Subscript a b p] c X.env = pure none := by rfl)
    (h1 : (assignEach [.Subscript a b p] X.env).map (·.2) = [assign (.Subscript a b p) X.env] := by rfl) (hq : ∀ v, assign (.Subscript a b p) X.env v = (do
      let ov ← holding [v] (eval a X.env)
      let iv ← holding [v, ov] (eval b X.env)
      standAt p
      holding [v, ov, iv] (setItem ov iv v)
      release [v, ov, iv] []) := by intro _; rfl) : PSw X E (.Assign [.Subscript a b p] c pos) (wPut ma mb mc) :=
  ps_imp (ps_asg hc (pg_sub ha hb (set_W hu) hq) hs hw h1) fun D σ H ⟨B, e, st, W, S, k, m⟩ => ⟨B, e, st, _, W.ex, S, fun dv st1 v H1 n1 x1 k1 r1 => ⟨B, e, st1, _, W.ex, S.on x1 k1, fun x st2 vx H2 n2 x2 k2 r2 =>
    ⟨B, e, st2, _, W.ex, (S.on x1 k1).on x2 k2, fun i st3 vi H3 n3 x3 k3 r3 => by
      obtain ⟨st4, h4, n4⟩ := on_iff.mp n3
      exact put_ok k3 (r2.ext x3) r3 ((r1.ext x2).ext x3) h4 fun H' x4 k4 => k.nx e st4 σ H' n4 ((((S.on x1 k1).on x2 k2).on x3 k3).on x4 k4) (((x1.trans x2).trans x3).trans x4), (k.ex.on x1).on x2, n2⟩, k.ex.on x1, n1⟩, k.ex, m⟩
end
end DL
namespace DL
open PySem PySem.Spec PyProof.Rows L2
abbrev WI := Env → Sto → PoX → (List D → (Sto → Prop) → Sto → Prop) → Prop
def wiSeq (m : WE) : WI := fun e st X Q => m e st X fun d st1 => on (sqOf st1 d) fun ds => Q ds (fun st' => sqOf st' d = some ds) st1
def signs (x : Str) : List D := x.cps.toList.map fun c => .str ⟨#[c]⟩
def wiStr (m : WE) : WI := fun e st X Q => m e st X fun d st1 => on (match d with | .str x => if x.length ≤ sizeLine then some x else none | _ => none) fun x => Q (signs x) (fun _ => True) st1
def small62 (i : Int) : Bool := decide (-1000 ≤ i) && decide (i ≤ 1000000)
def rangeL (lo hi : Int) : List D := (List.range (hi - lo).toNat).map fun i => .int (lo + (i : Nat))
def rangeOf : List D → Option (List D)
  | [.int j] => if small62 j = true then some (rangeL 0 j) else none
  | [.int i, .int j] => if small62 i = true ∧ small62 j = true then some (rangeL i j) else none
  | _ => none
def wiRange (m : WA) : WI := fun e st X Q => m e st X fun ds st1 => on (rangeOf ds) fun its => Q its (fun _ => True) st1
def enumL : Nat → List D → List D
  | _, [] => []
  | i, d :: ds => .tup [.int i, d] :: enumL (i + 1) ds
def wiEnum (m : WA) : WI := fun e st X Q => m e st X fun as st1 => on (match as with | [d] => lsOf st1 d | _ => none) fun ds => Q (enumL 0 ds) (fun st' => (match as with | [d] => lsOf st' d | _ => none) = some ds) st1
def zipL : List D → List D → List D
  | d :: ds, e :: es => .tup [d, e] :: zipL ds es
  | _, _ => []
/-- two lists, or two tuples -/
def pr {α : Type} : Option α → Option α → Option (α × α)
  | some a, some b => some (a, b)
  | _, _ => none
theorem pr_iff {α : Type} {x y : Option α} {p : α × α} : pr x y = some p ↔ x = some p.1 ∧ y = some p.2 := by
  obtain ⟨a, b⟩ := p
  cases x <;> cases y <;> simp [pr]
def zip2 (st : Sto) : List D → Option (List D × List D)
  | [a, b] => match pr (tpOf a) (tpOf b) with
    | some p => some p
    | none => pr (lsOf st a) (lsOf st b)
  | _ => none
def wiZip (m : WA) : WI := fun e st X Q => m e st X fun as st1 => on (zip2 st1 as) fun p => Q (zipL p.1 p.2) (fun st' => zip2 st' as = some p) st1
def ItOk (K : PySem.W.Frag) (B : Bz) (H1 : Hp) (st1 : Sto) (J : It) (ds : List D) (chk : Sto → Prop) : Prop := ∀ (i : Nat) (B' : Bz) (st : Sto) (H : Hp), Ext H1 (mu st1 B) H (mu st B') → StoOk K H B' st → chk st → i ≤ ds.length →
  (i = ds.length → J.stop i H) ∧ (∀ d, ds[i]? = some d → J.go i H ∧ ∀ x H', J.yld i H x H' → Ext H (mu st B') H' (mu st B') ∧ StoOk K H' B' st ∧ Rep K H' (mu st B') d x)
def tI (K : PySem.W.Frag) (mg : Str → Option Value) (E : XK) (m : WI) : TI := fun σ H R => ∃ B e st Qd Xd, Sit K B e st σ H ∧
  (∀ ds chk st' J H', Qd ds chk st' → ds.length ≤ sizeLine → Ext H (mu st B) H' (mu st' B) → StoOk K H' B st' → ItOk K B H' st' J ds chk → R J H') ∧ PostX K mg B H st Xd E ∧ m e st Xd Qd
section
variable {X : Cx} {E : XK} {tg a : Expr} {ma : WE} {pos p : Pos}
abbrev PIw (X : Cx) (E : XK) (tg a : Expr) (m : WI) : Prop := PI X tg a (tI X.K X.mg E m)
theorem pi_imp {e : Expr} {t t' : TI} (h : PI X tg e t) (i : ∀ σ H Q, t' σ H Q → t σ H Q) : PI X tg e t' := ⟨fun pins s σ H Q I q => h.run pins s σ H Q I (i _ _ _ q)⟩
def iSeq (K : PySem.W.Frag) (tl : TE) : TI := fun σ H R => tl σ H fun x H1 => ∃ a, x = .ref a ∧ (((∃ xs, SqL K H1 a xs) ∧ R (Itl K a) H1) ∨ ((∃ xs, SqT K H1 a xs) ∧ R (Itt K a) H1))
theorem pi_seq {l : Expr} {tl : TE} (hl : PE X l tl) : PI X tg l (iSeq X.K tl) := by
  refine ⟨fun pins s σ H R I h => ?_⟩
  refine thn (hl.run pins s σ H _ I h) fun v s1 ⟨x, H1, I1, r1, q1⟩ => ?_
  obtain ⟨a, e, q⟩ := q1
  subst e
  cases r1
  have fp : ∀ b ∈ [s1.heap.objs.size], FpOk X pins H1 b := fun b hb => by
    have e : b = s1.heap.objs.size := by simpa using hb
    subst e
    exact I1.fpOk (Nat.le_refl _) (I1.hok.fresh (Nat.le_refl _))
  rcases q with ⟨⟨xs, hq⟩, q⟩ | ⟨⟨xs, hq⟩, q⟩
  · obtain ⟨its, rv, p, hz⟩ := I1.list hq
    refine wpAny_pyIter_list p.isList ?_
    exact ⟨s1.heap.objs.size, [s1.heap.objs.size], _, _, H1, rfl, I1.kept (t' := s1.toks) fun b o e => Heap.get?_push_of_some _ e, turn_list a _, ⟨_, Heap.get?_push_size _ rfl, rfl, rfl⟩, fp, q⟩
  · obtain ⟨its, rv, p, hz⟩ := I1.tuple hq
    refine wpAny_pyIter_tuple (show s1.heap.IsTuple a its.toArray from p) ?_
    exact ⟨s1.heap.objs.size, [s1.heap.objs.size], _, _, H1, rfl, I1.kept (t' := s1.toks) fun b o e => Heap.get?_push_of_some _ e, turn_tuple a _, ⟨_, Heap.get?_push_size _ rfl, rfl, rfl⟩, fp, q⟩
theorem tp_sq {st : Sto} {d : D} {ds : List D} (h : tpOf d = some ds) : sqOf st d = some ds := by unfold sqOf; rw [h]
theorem i_seq (h : PEw X E a ma) : PIw X E tg a (wiSeq ma) := pi_imp (pi_seq h) fun σ H R ⟨B, e, st, Qd, Xd, S, pq, px, m⟩ => ⟨B, e, st, _, Xd, S, fun d st1 v H1 m1 x1 k1 r1 => by
  obtain ⟨ds, hd, q⟩ := on_iff.mp m1
  cases t : tpOf d with
  | some es =>
    have ees : es = ds := Option.some.inj ((tp_sq (st := st1) t).symm.trans hd)
    subst ees
    obtain ⟨a, vs, rfl, hs, r2, z⟩ := tp_of r1 t
    refine ⟨a, rfl, .inr ⟨⟨vs, hs⟩, pq es _ st1 _ H1 q z x1 k1 fun i B' st2 H2 x2 k2 _ hi => ?_⟩⟩
    obtain ⟨a', vs', ea, hs2, r3, _⟩ := tp_of (r1.ext x2) t
    cases ea
    refine ⟨fun e => ⟨vs', hs2, by rw [r3.length, e]; exact Nat.le_refl _⟩, fun d' hd' => ?_⟩
    obtain ⟨v', h1, h2⟩ := r3.get hd'
    refine ⟨⟨vs', v', hs2, h1⟩, fun x H' y => ?_⟩
    obtain ⟨rfl, y⟩ := y
    have := (y vs' hs2).symm.trans h1
    cases this
    exact ⟨.refl, k2, h2⟩
  | none =>
    have hl : lqOf st1 d = some ds := by
      unfold sqOf at hd
      rw [t] at hd
      exact hd
    obtain ⟨a, vs, rfl, hs, r2, z⟩ := lq_of k1 r1 hl
    refine ⟨a, rfl, .inl ⟨⟨vs, hs⟩, pq ds _ st1 _ H1 q z x1 k1 fun i B' st2 H2 x2 k2 c hi => ?_⟩⟩
    have hl2 : lqOf st2 d = some ds := by
      unfold sqOf at c
      rw [t] at c
      exact c
    obtain ⟨a', vs', ea, hs2, r3, _⟩ := lq_of k2 (r1.ext x2) hl2
    cases ea
    refine ⟨fun e => ⟨vs', hs2, by rw [r3.length, e]; exact Nat.le_refl _⟩, fun d' hd' => ?_⟩
    obtain ⟨v', h1, h2⟩ := r3.get hd'
    refine ⟨⟨vs', v', hs2, h1⟩, fun x H' y => ?_⟩
    obtain ⟨rfl, y⟩ := y
    have := (y vs' hs2).symm.trans h1
    cases this
    exact ⟨.refl, k2, h2⟩, px, m⟩
theorem rangeL_len (lo hi : Int) : (rangeL lo hi).length = (hi - lo).toNat := by unfold rangeL; rw [List.length_map, List.length_range]
theorem itr_ok {K : PySem.W.Frag} {B : Bz} {H1 : Hp} {st1 : Sto} (lo hi : Int) : ItOk K B H1 st1 (Itr lo (hi - lo).toNat) (rangeL lo hi) (fun _ => True) := fun i B' st2 H2 x2 k2 _ hz => by
  rw [rangeL_len] at hz
  refine ⟨fun e => by rw [rangeL_len] at e; exact Nat.le_of_eq e.symm, fun d hd => ?_⟩
  have hl : i < (hi - lo).toNat := by
    have := (List.getElem?_eq_some_iff.mp hd).1
    rw [rangeL_len] at this
    exact this
  refine ⟨hl, fun x H' y => ?_⟩
  obtain ⟨rfl, rfl⟩ := y
  unfold rangeL at hd
  rw [List.getElem?_map, List.getElem?_range hl] at hd
  cases hd
  exact ⟨.refl, k2, .int _⟩
variable {es : List Expr} {n : Nat} {m : WA}
theorem small_iff0 {i : Int} (h : small62 i = true) : -1000 ≤ i ∧ i ≤ 1000000 := by
  unfold small62 at h
  rw [Bool.and_eq_true] at h
  exact ⟨of_decide_eq_true h.1, of_decide_eq_true h.2⟩
theorem small_iff {i : Int} (h : small62 i = true) : -(2 ^ 62) ≤ i ∧ i < 2 ^ 62 := by
  have := small_iff0 h
  omega
theorem rangeL_le {i j : Int} (h : small62 i = true) (h' : small62 j = true) : (rangeL i j).length ≤ sizeLine := by
  rw [rangeL_len]
  have := small_iff0 h
  have := small_iff0 h'
  exact Nat.le_trans (show (j - i).toNat ≤ 1001000 by omega) (by decide)
theorem i_range1 (hg : Gl X "range") (hm : X.mg "range" = none) (h : PAw X E [a] 1 m) (hs : starEach [a] X.env = [(false, eval a X.env)] := by rfl) : PIw X E tg (.Call (.Name "range" p) [a] [] pos) (wiRange m) :=
  pi_imp (pi_range1 hg hm h hs) fun σ H R ⟨B, e, st, Qd, Xd, S, pq, px, mm⟩ => ⟨B, e, st, _, Xd, S, fun ds st1 vs H1 m1 l1 x1 k1 r1 => by
    obtain ⟨its, hi, q⟩ := on_iff.mp m1
    unfold rangeOf at hi
    split at hi
    · split at hi <;> cases hi
      rename_i j hj
      cases r1 with
      | cons r1 r2 =>
        cases r2; cases r1
        refine ⟨j, rfl, (small_iff hj).1, (small_iff hj).2, pq _ _ st1 _ H1 q (rangeL_le (by decide) hj) x1 k1 ?_⟩
        have := itr_ok (K := X.K) (B := B) (H1 := H1) (st1 := st1) 0 j
        rw [Int.sub_zero] at this
        exact this
    · cases l1
    · (cases hi), px, mm⟩
theorem okS_mem {z : Str} {c : Nat} (h : okS z = true) (m : c ∈ z.cps.toList) : okS ⟨#[c]⟩ = true := by
  unfold okS PyData.strOk at h ⊢
  rw [Array.all_eq_true'] at h
  have := h c (Array.mem_def.mpr m)
  simpa using this
theorem i_str (h : PEw X E a ma) : PIw X E tg a (wiStr ma) := pi_imp (pi_str h) fun σ H R ⟨B, e, st, Qd, Xd, S, pq, px, m⟩ => ⟨B, e, st, _, Xd, S, fun d st1 v H1 m1 x1 k1 r1 => by
  obtain ⟨x, hx, q⟩ := on_iff.mp m1
  split at hx <;> try cases hx
  split at hx <;> cases hx
  rename_i hz
  cases r1
  rename_i hok
  have sl : (signs x).length = x.cps.size := by unfold signs; rw [List.length_map, Array.length_toList]
  refine ⟨x, rfl, pq _ _ st1 _ H1 q (by rw [sl]; exact hz) x1 k1 fun i B' st2 H2 x2 k2 _ hi => ?_⟩
  refine ⟨fun e => by rw [sl] at e; exact Nat.le_of_eq e.symm, fun d hd => ⟨by have := (List.getElem?_eq_some_iff.mp hd).1; rw [sl] at this; exact this, fun y H' yl => ?_⟩⟩
  obtain ⟨rfl, c, hc, rfl⟩ := yl
  unfold signs at hd
  rw [List.getElem?_map, Array.getElem?_toList, hc] at hd
  cases hd
  refine ⟨.refl, k2, .str _ (okS_mem hok ?_)⟩
  exact Array.mem_def.mp (Array.mem_of_getElem? hc), px, m⟩
theorem zipL_len : ∀ (ds es : List D), (zipL ds es).length = min ds.length es.length
  | [], _ => by simp [zipL]
  | _ :: _, [] => by simp [zipL]
  | d :: ds, e :: es => by unfold zipL; rw [List.length_cons, zipL_len, List.length_cons, List.length_cons]; omega
theorem zipL_get : ∀ (ds es : List D) (i : Nat) {z : D}, (zipL ds es)[i]? = some z → ∃ d e, ds[i]? = some d ∧ es[i]? = some e ∧ z = .tup [d, e]
  | [], _, _, _, h => by simp [zipL] at h
  | _ :: _, [], _, _, h => by simp [zipL] at h
  | d :: ds, e :: es, 0, z, h => by
    unfold zipL at h
    cases h
    exact ⟨d, e, rfl, rfl, rfl⟩
  | d :: ds, e :: es, i + 1, z, h => by
    unfold zipL at h
    obtain ⟨d', e', h1, h2, h3⟩ := zipL_get ds es i (by simpa using h)
    exact ⟨d', e', by simpa using h1, by simpa using h2, h3⟩
theorem pair_ok {K : PySem.W.Frag} {H : Hp} {B : Bz} {st : Sto} {T : Addr} {a b : D} {x y : V} (k : StoOk K H B st) (e : H T = none) (ra : Rep K H (mu st B) a x) (rb : Rep K H (mu st B) b y) :
    Ext H (mu st B) (upd H T (.tup [x, y])) (mu st B) ∧ StoOk K (upd H T (.tup [x, y])) B st ∧ Rep K (upd H T (.tup [x, y])) (mu st B) (.tup [a, b]) (.ref T) := new_tup k e (.cons ra (.cons rb .nil)) (by show 2 ≤ sizeLine; decide)
theorem i_zip {b : Expr} {elts : List Expr} {kk : Nat} {tpos : Pos} (hg : Gl X "zip") (hm : X.mg "zip" = none) (h : PAw X E [a, b] 2 m) (hs : starEach [a, b] X.env = (false, eval a X.env) :: starEach [b] X.env := by rfl) (hpl : (backTo pos (starEach [b] X.env)).any (·.1) = false := by rfl) :
    PIw X E (.Tuple elts kk tpos) (.Call (.Name "zip" p) [a, b] [] pos) (wiZip m) :=
  pi_imp (RZ.pi_zipA hg hm h hs hpl) fun σ H R ⟨B, e, st, Qd, Xd, S, pq, px, mm⟩ => ⟨B, e, st, _, Xd, S, fun as st1 vs H1 m1 l1 x1 k1 r1 => by
    obtain ⟨⟨ds, es⟩, hd, q⟩ := on_iff.mp m1
    have hd0 := hd
    unfold zip2 at hd
    split at hd
    · rename_i d1 d2
      cases r1 with
      | cons r1 r2 => cases r2 with
        | cons r2 r3 =>
          cases r3
          split at hd
          · rename_i hp
            cases hd
            obtain ⟨t1, t2⟩ := pr_iff.mp hp
            obtain ⟨a, ws, rfl, hs, r3, z⟩ := tp_of r1 t1
            obtain ⟨b, us, rfl, hs', r3', z'⟩ := tp_of r2 t2
            refine ⟨a, b, ws, us, rfl, .inr ⟨hs, hs', pq _ _ st1 _ H1 q (by rw [zipL_len]; exact Nat.le_trans (Nat.min_le_left _ _) z) x1 k1 fun i B' st2 H2 x2 k2 c hi => ?_⟩⟩
            obtain ⟨a', ws', ea, hs2, r4, _⟩ := tp_of (r1.ext x2) t1
            cases ea
            obtain ⟨b', us', eb, hs2', r4', _⟩ := tp_of (r2.ext x2) t2
            cases eb
            refine ⟨fun e => ⟨ws', us', hs2, hs2', ?_⟩, fun d hd => ?_⟩
            · rw [zipL_len] at e
              have l1 := r4.length
              have l2 := r4'.length
              simp only at e l1 l2
              omega
            · obtain ⟨d', e', h1, h2, rfl⟩ := zipL_get _ _ _ hd
              obtain ⟨v1, h3, h4⟩ := r4.get h1
              obtain ⟨v2, h5, h6⟩ := r4'.get h2
              refine ⟨⟨ws', us', v1, v2, hs2, hs2', h3, h5⟩, fun x H' y => ?_⟩
              obtain ⟨T, x', y', rfl, hT, rfl, f1, f2⟩ := y
              have e1 := (f1 ws' hs2).symm.trans h3
              have e2 := (f2 us' hs2').symm.trans h5
              cases e1; cases e2
              exact pair_ok k2 hT h4 h6
          · rename_i hp
            obtain ⟨t1, t2⟩ := pr_iff.mp hd
            obtain ⟨a, ws, rfl, hs, r3, z⟩ := ls_of k1 r1 t1
            obtain ⟨b, us, rfl, hs', r3', z'⟩ := ls_of k1 r2 t2
            refine ⟨a, b, ws, us, rfl, .inl ⟨.inl hs, .inl hs', pq _ _ st1 _ H1 q (by rw [zipL_len]; exact Nat.le_trans (Nat.min_le_left _ _) z) x1 k1 fun i B' st2 H2 x2 k2 c hi => ?_⟩⟩
            have c2 : lsOf st2 d1 = some ds ∧ lsOf st2 d2 = some es := by
              have c := (show zip2 st2 [d1, d2] = some (ds, es) from c)
              unfold zip2 at c
              simp only [hp] at c
              exact pr_iff.mp c
            obtain ⟨a', ws', ea, hs2, r4, _⟩ := ls_of k2 (r1.ext x2) c2.1
            cases ea
            obtain ⟨b', us', eb, hs2', r4', _⟩ := ls_of k2 (r2.ext x2) c2.2
            cases eb
            refine ⟨fun e => ⟨ws', us', .inl hs2, .inl hs2', ?_⟩, fun d hd => ?_⟩
            · rw [zipL_len] at e
              have l1 := r4.length
              have l2 := r4'.length
              simp only at e l1 l2
              omega
            · obtain ⟨d', e', h1, h2, rfl⟩ := zipL_get _ _ _ hd
              obtain ⟨v1, h3, h4⟩ := r4.get h1
              obtain ⟨v2, h5, h6⟩ := r4'.get h2
              refine ⟨⟨ws', us', v1, v2, .inl hs2, .inl hs2', h3, h5⟩, fun x H' y => ?_⟩
              obtain ⟨T, x', y', rfl, hT, rfl, f1, f2⟩ := y
              have e1 := (f1 ws' (.inl hs2)).symm.trans h3
              have e2 := (f2 us' (.inl hs2')).symm.trans h5
              cases e1; cases e2
              exact pair_ok k2 hT h4 h6
    · (cases hd), px, mm⟩
end
end DL
namespace DL
open PySem PySem.Spec PyProof.Rows L2
def fgt (vs : List Nat) (e : Env) : Env := match vs with
  | [] => e
  | v :: vs => (fgt vs e).set v none
theorem fgt_len (e : Env) : ∀ vs, (fgt vs e).length = e.length
  | [] => rfl
  | v :: vs => by unfold fgt; rw [List.length_set, fgt_len e vs]
theorem fgt_some {e : Env} {i : Nat} {d : D} : ∀ {vs : List Nat}, (fgt vs e)[i]? = some (some d) → e[i]? = some (some d) ∧ i ∉ vs
  | [], h => ⟨h, by simp⟩
  | v :: vs, h => by
    unfold fgt at h
    by_cases z : i = v
    · subst z
      by_cases l : i < (fgt vs e).length
      · rw [List.getElem?_set_self l] at h; cases h
      · rw [List.getElem?_eq_none (by simpa using l)] at h; cases h
    · rw [List.getElem?_set_ne (Ne.symm z)] at h
      obtain ⟨h1, h2⟩ := fgt_some h
      exact ⟨h1, fun m => (List.mem_cons.mp m).elim z h2⟩
theorem Sit.fgt {K : PySem.W.Frag} {B : Bz} {e : Env} {st : Sto} {σ : L2.St} {H : Hp} (s : Sit K B e st σ H) (vs : List Nat) : Sit K B (fgt vs e) st σ H :=
  ⟨⟨by rw [fgt_len]; exact s.env.len, fun i d q => s.env.at_ i d (fgt_some q).1⟩, s.sto⟩
theorem Sit.wipe {K : PySem.W.Frag} {B : Bz} {e : Env} {st : Sto} {σ : L2.St} {H : Hp} (s : Sit K B e st σ H) (vs : List Nat) : Sit K B (DL.fgt vs e) st (L2.wipe σ vs) H :=
  ⟨⟨by rw [fgt_len, wipe_length]; exact s.env.len, fun i d q => by
    obtain ⟨h1, h2⟩ := fgt_some q
    obtain ⟨v, h3, r⟩ := s.env.at_ i d h1
    exact ⟨v, by rw [wipe_out h2]; exact h3, r⟩⟩, s.sto⟩
theorem wipe_in {σ : L2.St} {i : Nat} : ∀ {vs : List Nat}, i ∈ vs → i < σ.length → (L2.wipe σ vs)[i]? = some none
  | [], h, _ => nomatch h
  | v :: vs, h, l => by
    unfold L2.wipe
    by_cases z : i = v
    · subst z
      exact List.getElem?_set_self (by rw [wipe_length]; exact l)
    · rw [List.getElem?_set_ne (Ne.symm z)]
      exact wipe_in ((List.mem_cons.mp h).resolve_left z) l
theorem wipe_eq {σ σ' : L2.St} {ss vs : List Nat} (o : Outs ss (L2.wipe σ vs) σ') (h : ∀ i ∈ ss, i ∈ vs) : L2.wipe σ' vs = L2.wipe σ vs := by
  have l : σ'.length = σ.length := o.1.trans (wipe_length σ vs)
  refine List.ext_getElem? fun i => ?_
  by_cases hi : i ∈ vs
  · by_cases hl : i < σ.length
    · rw [wipe_in hi hl, wipe_in hi (by rw [l]; exact hl)]
    · rw [List.getElem?_eq_none (by rw [wipe_length]; omega), List.getElem?_eq_none (by rw [wipe_length]; omega)]
  · rw [wipe_out hi, o.2 i fun z => hi (h i z)]
def wForL (t : Tg) (body : WS) (vs : List Nat) (chk : Sto → Prop) (E : WEnds) : List D → Env → Sto → Prop
  | [], e, st => chk st ∧ E.nx e st
  | d :: ds, e, st => chk st ∧ on (asg t d e) fun e1 => body { E with nx := fun e2 st2 => wForL t body vs chk E ds (fgt vs e2) st2, ct := fun e2 st2 => wForL t body vs chk E ds (fgt vs e2) st2, bk := E.nx } e1 st
def wFor (wi : WI) (t : Tg) (body : WS) (vs : List Nat) : WS := fun E e st => wi e st E.ex fun ds chk st1 => wForL t body vs chk E ds (fgt vs e) st1
section
variable {X : Cx} {E : XK} {tg a : Expr} {wi : WI} {t : Tg} {pos : Pos} {m1 : WS}
theorem for_ok {vs : List Nat} : ∀ D σ H, tS X.K X.mg E (wFor wi t m1 vs) D σ H → tFor (tI X.K X.mg E wi) (tG X.K t) (tS X.K X.mg E m1) D σ H :=
  fun D σ H ⟨B, e, st, W, S, k, m⟩ => ⟨B, e, st, _, W.ex, S, fun ds chk st1 J H1 n1 z1 x1 k1 it => by
    refine ⟨fun i m σ2 H2 => m = ds.length - i ∧ i ≤ ds.length ∧ ∃ e2 st2, Sit X.K B e2 st2 σ2 H2 ∧ Ext H1 (mu st1 B) H2 (mu st2 B) ∧ wForL t m1 vs chk W (ds.drop i) e2 st2,
      ⟨_, rfl, Nat.zero_le _, fgt vs e, st1, (S.on x1 k1).fgt vs, .refl, n1⟩, ?_⟩
    rintro i m σ2 H2 ⟨rfl, hi, e2, st2, S2, x2, n2⟩
    have c : chk st2 := by
      cases q : ds.drop i with
      | nil => rw [q] at n2; exact n2.1
      | cons d r => rw [q] at n2; exact n2.1
    obtain ⟨hstop, hgo⟩ := it i B st2 H2 x2 S2.sto c hi
    by_cases hl : i = ds.length
    · refine .inl ⟨hstop hl, ?_⟩
      subst hl
      rw [List.drop_length] at n2
      exact k.nx e2 st2 σ2 H2 n2.2 S2 (x1.trans x2)
    · have hlt : i < ds.length := by omega
      have hd : ds[i]? = some ds[i] := List.getElem?_eq_getElem hlt
      rw [List.drop_eq_getElem_cons hlt] at n2
      obtain ⟨g1, g2⟩ := hgo _ hd
      refine .inr ⟨g1, fun σ3 H3 => ∃ e3 st3, Sit X.K B e3 st3 σ3 H3 ∧ Ext H1 (mu st1 B) H3 (mu st3 B) ∧ wForL t m1 vs chk W (ds.drop (i + 1)) e3 st3, fun σ3 H3 ⟨e3, st3, h3⟩ => ⟨_, by omega, rfl, hlt, e3, st3, h3⟩, fun x H' y => ?_⟩
      obtain ⟨x3, k3, r3⟩ := g2 x H' y
      refine ⟨B, e2, st2, _, fun e3 => m1 { W with nx := fun e4 st4 => wForL t m1 vs chk W (ds.drop (i + 1)) (fgt vs e4) st4, ct := fun e4 st4 => wForL t m1 vs chk W (ds.drop (i + 1)) (fgt vs e4) st4, bk := W.nx } e3 st2, S2.on x3 k3, r3, fun e3 σ3 q S3 _ => ?_, n2.2⟩
      have xx := (x1.trans x2).trans x3
      refine ⟨B, e3, st2, { W with nx := fun e4 st4 => wForL t m1 vs chk W (ds.drop (i + 1)) (fgt vs e4) st4, ct := fun e4 st4 => wForL t m1 vs chk W (ds.drop (i + 1)) (fgt vs e4) st4, bk := W.nx }, S3, ⟨fun e4 st4 σ4 H4 q4 S4 x4 => ⟨fgt vs e4, st4, S4.fgt vs, (x2.trans x3).trans x4, q4⟩, k.rt.on xx, k.ex.on xx, fun e4 st4 σ4 H4 q4 S4 x4 => k.nx e4 st4 σ4 H4 q4 S4 (xx.trans x4), fun e4 st4 σ4 H4 q4 S4 x4 => ⟨fgt vs e4, st4, S4.fgt vs, (x2.trans x3).trans x4, q4⟩⟩, q⟩, k.ex, m⟩
theorem s_for (vs : List Nat) {body : List Stmt} (hp : PassesOwn (model X.prog X.w) X.A X.env X.xe) (hc : X.calm = true) (hi : PIw X E tg a wi) (hg : PGw X tg t) (hb : PBw X E body m1) (hs : ∀ x, foldedSetIterable a X.env x = pure x := by intro _; rfl) :
    PSw X E (.For tg a body [] pos) (wFor wi t m1 vs) := ps_imp (ps_for hp hc hi hg hb hs) for_ok
def XF : PoX := fun _ _ => False
def wCompL (t : Tg) (test : WT) (elt : WE) (chk : Sto → Prop) (e0 : Env) (Q : List D → Sto → Prop) : List D → List D → Sto → Prop
  | [], acc, st => chk st ∧ Q acc st
  | d :: ds, acc, st => chk st ∧ on (asg t d e0) fun e1 => test e1 st XF fun b st1 => if b = true then elt e1 st1 XF fun y st2 => wCompL t test elt chk e0 Q ds (acc ++ [y]) st2 else wCompL t test elt chk e0 Q ds acc st1
def wComp (wi : WI) (t : Tg) (test : WT) (elt : WE) (vs : List Nat) : WE := fun e st X Q => wi e st X fun ds chk st1 => wCompL t test elt chk (fgt vs e) (fun acc st2 => Q (.lst acc) st2) ds [] st1
/-- .. a list that will change -/
def wCompR (wi : WI) (t : Tg) (test : WT) (elt : WE) (vs : List Nat) : WE := fun e st X Q => wi e st X fun ds chk st1 => wCompL t test elt chk (fgt vs e) (fun acc st2 => ∀ p, st2 p = none → Q (.ref p) (st2.set p (.lst acc))) ds [] st1
def wYes : WT := fun _ st _ Q => Q true st
theorem noX {K : PySem.W.Frag} {mg : Str → Option Value} {B : Bz} {H : Hp} {st : Sto} : PostX K mg B H st XF E0 := fun _ _ _ _ h => h.elim
theorem comp_core {test : WT} {elt : WE} {vs : List Nat} (hv : ∀ i ∈ t.slots, i ∈ vs) {σ : L2.St} {H : Hp} {Q : VK} {Qf : List D → Sto → Prop}
    (h : ∃ B e st Xd, Sit X.K B e st σ H ∧ (∀ acc vacc D st' H', Qf acc st' → H D = none → H' D = some (.lst vacc) → st' D = none → ¬ B D → RepL X.K H' (mu st' fun a => B a ∨ a = D) acc vacc → acc.length ≤ sizeLine → Ext H (mu st B) H' (mu st' fun a => B a ∨ a = D) → StoOk X.K H' (fun a => B a ∨ a = D) st' → Q (.ref D) H') ∧ PostX X.K X.mg B H st Xd E ∧
      wi e st Xd fun ds chk st1 => wCompL t test elt chk (fgt vs e) Qf ds [] st1) :
    tLc (tI X.K X.mg E wi) (tG X.K t) (tT X.K X.mg E0 test) (tE X.K X.mg E0 elt) vs σ H Q := by
  obtain ⟨B, e, st, Xd, S, pq, px, m⟩ := h
  refine ⟨B, e, st, _, Xd, S, fun ds chk st1 J H1 n1 z1 x1 k1 it => ?_, px, m⟩
  intro D hD
  have hDst : st1 D = none := k1.none_ hD
  have nB : ¬ B D := fun b => by
    obtain ⟨_, q⟩ := k1.bu D b
    rw [hD] at q; cases q
  obtain ⟨kb, xb⟩ := k1.busy (us := []) hD
  have hd0 : H D = none := by
    cases q : H D with
    | none => rfl
    | some o => exact absurd hD (x1.tr D (by rw [q]; exact fun z => nomatch z))
  refine ⟨fun i m H2 => m = ds.length - i ∧ i ≤ ds.length ∧ ∃ acc vacc st2, H2 D = some (.lst vacc) ∧ st2 D = none ∧ RepL X.K H2 (mu st2 fun a => B a ∨ a = D) acc vacc ∧ acc.length ≤ i ∧ StoOk X.K H2 (fun a => B a ∨ a = D) st2 ∧ Ext H1 (mu st1 B) H2 (mu st2 fun a => B a ∨ a = D) ∧ wCompL t test elt chk (fgt vs e) Qf (ds.drop i) acc st2,
    ⟨_, rfl, Nat.zero_le _, [], [], st1, upd_same, hDst, .nil, Nat.zero_le _, kb, xb, n1⟩, ?_⟩
  rintro i m H2 ⟨rfl, hi, acc, vacc, st2, hD2, hDs, ra, la, k2, x2, n2⟩
  have c : chk st2 := by
    cases q : ds.drop i with
    | nil => rw [q] at n2; exact n2.1
    | cons d r => rw [q] at n2; exact n2.1
  obtain ⟨hstop, hgo⟩ := it i _ st2 H2 x2 k2 c hi
  have S0 : Sit X.K (fun a => B a ∨ a = D) (fgt vs e) st2 (L2.wipe σ vs) H2 := ⟨(S.wipe vs).env.ext (x1.trans x2), k2⟩
  by_cases hl : i = ds.length
  · refine .inl ⟨hstop hl, ?_⟩
    subst hl
    rw [List.drop_length] at n2
    exact pq acc vacc D st2 H2 n2.2 hd0 hD2 hDs nB ra (Nat.le_trans la z1) (x1.trans x2) k2
  · have hlt : i < ds.length := by omega
    have hd : ds[i]? = some ds[i] := List.getElem?_eq_getElem hlt
    rw [List.drop_eq_getElem_cons hlt] at n2
    obtain ⟨g1, g2⟩ := hgo _ hd
    refine .inr ⟨g1, fun H3 => ∃ acc vacc st3, H3 D = some (.lst vacc) ∧ st3 D = none ∧ RepL X.K H3 (mu st3 fun a => B a ∨ a = D) acc vacc ∧ acc.length ≤ i + 1 ∧ StoOk X.K H3 (fun a => B a ∨ a = D) st3 ∧ Ext H1 (mu st1 B) H3 (mu st3 fun a => B a ∨ a = D) ∧ wCompL t test elt chk (fgt vs e) Qf (ds.drop (i + 1)) acc st3,
      fun H3 ⟨acc, vacc, st3, h1, h2, h3⟩ => ⟨_, by omega, rfl, hlt, acc, vacc, st3, h1, h2, h3⟩, fun x H' y => ?_⟩
    obtain ⟨x3, k3, r3⟩ := g2 x H' y
    refine ⟨_, fgt vs e, st2, _, fun e3 => test e3 st2 XF fun b st3 => if b = true then elt e3 st3 XF fun y st4 => wCompL t test elt chk (fgt vs e) Qf (ds.drop (i + 1)) (acc ++ [y]) st4 else wCompL t test elt chk (fgt vs e) Qf (ds.drop (i + 1)) acc st3, S0.on x3 k3, r3, fun e3 σ3 q S3 o => ?_, n2.2⟩
    refine ⟨wipe_eq o hv, _, e3, st2, _, XF, S3, fun b st4 H4 q4 x4 k4 => ?_, noX, q⟩
    have D4 := (x3.trans x4).kp D _ hD2 (fun z => z hDs)
    have D4s : st4 D = none := Classical.not_not.mp D4.2
    cases b with
    | false =>
      rw [if_neg Bool.false_ne_true] at q4
      exact iteF ⟨acc, vacc, st4, D4.1, D4s, (ra.ext x3).ext x4, Nat.le_succ_of_le la, k4, (x2.trans x3).trans x4, q4⟩
    | true =>
      rw [if_pos rfl] at q4
      refine iteT ⟨_, e3, st4, _, XF, S3.on x4 k4, fun d st5 v H5 q5 x5 k5 r5 => ?_, noX, q4⟩
      have D5 := x5.kp D _ D4.1 (fun z => z D4s)
      have D5s : st5 D = none := Classical.not_not.mp D5.2
      have ra5 := (((ra.ext x3).ext x4).ext x5)
      have la5 : vacc.length = acc.length := ra5.length
      obtain ⟨k6, f6⟩ := k5.fill (us := vacc ++ [v]) (.inr rfl) D5s
      have repL : ∀ {ds vs}, RepL X.K H5 (mu st5 fun a => B a ∨ a = D) ds vs → RepL X.K (upd H5 D (.lst (vacc ++ [v]))) (mu st5 fun a => B a ∨ a = D) ds vs := fun {ds} => by
        induction ds with
        | nil => intro vs r; cases r; exact .nil
        | cons d ds ih => intro vs r; cases r with
          | cons r1 r2 => exact .cons (f6 r1) (ih r2)
      refine ⟨vacc, D5.1, by omega, acc ++ [d], vacc ++ [v], st5, upd_same, D5s, repL (ra5.append (.cons r5 .nil)), by rw [List.length_append]; exact Nat.succ_le_succ la, k6, ?_, q5⟩
      have xx := ((x2.trans x3).trans x4).trans x5
      refine ⟨fun a o ha n => ?_, xx.bz, fun a h => upd_tr a (xx.tr a h)⟩
      obtain ⟨h1, h2⟩ := xx.kp a o ha n
      exact ⟨by rw [upd_ne (ne_of_none ha hD)]; exact h1, h2⟩
theorem StoOk.unbusy {K : PySem.W.Frag} {H : Hp} {B : Bz} {st : Sto} {D : Addr} (k : StoOk K H (fun a => B a ∨ a = D) st) : StoOk K H B st ∧ ∀ {ds vs}, RepL K H (mu st fun a => B a ∨ a = D) ds vs → RepL K H (mu st B) ds vs := by
  have w : ∀ a, (mu st B).has a → (mu st fun a => B a ∨ a = D).has a := fun a m => by
    rcases m with m | m
    · exact .inl m
    · exact .inr (.inl m)
  refine ⟨⟨fun a c q => ?_, fun a m => k.bu a (.inl m), fun a m => k.nb a (.inl m)⟩, fun r => r.weak w⟩
  obtain ⟨u, e1, r⟩ := k.at_ a c q
  refine ⟨u, e1, ?_⟩
  cases c <;> cases u <;> first | exact r.elim | skip
  · exact ⟨r.1.weak w, r.2⟩
  · exact ⟨r.1, r.2.weak w⟩
  · exact ⟨r.1, r.2.weak w⟩
  · exact ⟨r.1, r.2.1, r.2.2.1, r.2.2.2.weak w⟩
  · rename_i od u
    cases u <;> first | exact r.elim | exact ⟨r.1, r.2.1, r.2.2.weak w⟩
  · rename_i od u
    cases u <;> first | exact r.elim | exact ⟨r.1, r.2.1, r.2.2.weak w⟩
section
variable {test : WT} {elt : WE} {vs : List Nat}
theorem comp_ok (hv : ∀ i ∈ t.slots, i ∈ vs) : ∀ σ H Q, tE X.K X.mg E (wComp wi t test elt vs) σ H Q → tLc (tI X.K X.mg E wi) (tG X.K t) (tT X.K X.mg E0 test) (tE X.K X.mg E0 elt) vs σ H Q :=
  fun σ H Q ⟨B, e, st, Qd, Xd, S, pq, px, m⟩ => comp_core hv ⟨B, e, st, Xd, S, fun acc vacc D st' H' q hD hD' hs nB r z x k => by
    obtain ⟨k2, w⟩ := k.unbusy
    refine pq (.lst acc) st' (.ref D) H' q ⟨x.kp, fun a h m => x.bz a h (.inl m), x.tr⟩ k2 (.lst ⟨fun m => ?_, .inl hD'⟩ (w r) z)
    rcases m with m | m
    · exact m hs
    · exact nB m, px, m⟩
abbrev PTsw (X : Cx) (E : XK) (es : List Expr) (m : WT) : Prop := PTs X es (tT X.K X.mg E m)
theorem ts_nil : PTsw X E [] wYes := ⟨fun pins s σ H Q I ⟨B, e, st, Qd, Xd, S, pq, px, m⟩ => pts_nil.run pins s σ H Q I (pq true st H m .refl S.sto)⟩
theorem ts_one {c : Expr} {m : WT} (h : PTw X E c m) : PTsw X E [c] m := pts_one h
variable {elt' tg' : Expr} {ifs : List Expr} {scope : Scope}
theorem e_comp (own : List (Str × Nat)) (hc : X.calm = true) (hN : X.N.Nodup) (hi : PIw X E tg a wi) (ok : blkC X.N X.env.scope scope own = true)
    (hg : ∀ (s : Shared) (H : Hp) (C : Addr) (cl : List (Str × Addr)) (fp : List Addr), PGw (X.blk s H scope (compEnvC scope cl C X.env) fp) tg t) (ht : ∀ (s : Shared) (H : Hp) (C : Addr) (cl : List (Str × Addr)) (fp : List Addr), PTsw (X.blk s H scope (compEnvC scope cl C X.env) fp) E0 ifs test)
    (he : ∀ (s : Shared) (H : Hp) (C : Addr) (cl : List (Str × Addr)) (fp : List Addr), PEw (X.blk s H scope (compEnvC scope cl C X.env) fp) E0 elt' elt) (hv : ∀ i ∈ t.slots, i ∈ own.map (·.2) := by decide) (hs : ∀ x, foldedSetIterable a X.env x = pure x := by intro _; rfl) :
    PEw X E (.ListComp elt' [⟨tg, a, ifs, 0⟩] scope pos) (wComp wi t test elt (own.map (·.2))) := pe_imp (pe_lc hc hN hi (blkOk_by ok) hg ht he hs) (comp_ok hv)
theorem s_setC (i : Nat) {y : Str} {py spos : Pos} (own : List (Str × Nat)) (hc : X.calm = true) (hN : X.N.Nodup) (hi : PIw X E tg a wi) (ok : blkC X.N X.env.scope scope own = true)
    (hg : ∀ (s : Shared) (H : Hp) (C : Addr) (cl : List (Str × Addr)) (fp : List Addr), PGw (X.blk s H scope (compEnvC scope cl C X.env) fp) tg t) (ht : ∀ (s : Shared) (H : Hp) (C : Addr) (cl : List (Str × Addr)) (fp : List Addr), PTsw (X.blk s H scope (compEnvC scope cl C X.env) fp) E0 ifs test)
    (he : ∀ (s : Shared) (H : Hp) (C : Addr) (cl : List (Str × Addr)) (fp : List Addr), PEw (X.blk s H scope (compEnvC scope cl C X.env) fp) E0 elt' elt)
    (hsw : swapsWith (.ListComp elt' [⟨tg, a, ifs, 0⟩] scope pos) (some (.Name y py)) spos.line X.env = pure true := by exact sw_true rfl rfl rfl (by decide +kernel))
    (hy : X.N[i]? = some y := by rfl) (hyl : X.env.scope.names.lookup y = some .local := by rfl) (hv : ∀ i ∈ t.slots, i ∈ own.map (·.2) := by decide) (hs : ∀ x, foldedSetIterable a X.env x = pure x := by intro _; rfl) :
    PSw X E (.Assign [.Name y py] (.ListComp elt' [⟨tg, a, ifs, 0⟩] scope pos) spos) (wSet i (wComp wi t test elt (own.map (·.2)))) := ps_imp (ps_setLc hc hN hy hyl hsw hi (blkOk_by ok) hg ht he hs) (set_ok (comp_ok hv))
end
end
/-- n names; keep: what is made in the def is forgotten at its end -/
def wDef (n ar : Nat) (keep : Bool) (body : WS) : WF := fun ds st X Q => ds.length = ar ∧
  body { nx := fun _ st' => Q .non (if keep then st'.keepOnly st else st'), rt := fun d st' => Q d (if keep then st'.keepOnly st else st'), ex := fun x st' => X x (if keep then st'.keepOnly st else st') } (ds.map some ++ List.replicate (n - ds.length) none) st
section
variable {P : Program} {w : World} {K : PySem.W.Frag} {mg : Str → Option Value} {base : Heap}
theorem keepOnly_sub {st st0 : Sto} : ∀ a c, st.keepOnly st0 a = some c → st a = some c := fun a c h => by
  unfold Sto.keepOnly at h
  split at h
  · exact h
  · cases h
theorem def_in {N : List Str} {n ar : Nat} {keep : Bool} {body : WS} {vs : List V} {H : Hp} {Q : VK} {E : XK} (hN : N.length = n) (h : spF K mg ar (wDef n ar keep body) vs H Q E) :
    tS K mg E body { nx := fun _ H' => Q .non H', rt := Q } (L2.start N vs) H := by
  obtain ⟨B, ds, st, Qd, Xd, l, k, r, pq, px, ⟨la, m⟩⟩ := h
  have drop : ∀ {st' : Sto} {H'} , StoOk K H' B st' → StoOk K H' B (if keep then st'.keepOnly st else st') ∧ Ext H' (mu st' B) H' (mu (if keep then st'.keepOnly st else st') B) := fun {st' H'} k' => by
    cases keep with
    | true => exact k'.drop keepOnly_sub
    | false => exact ⟨k', .refl⟩
  refine ⟨B, _, st, { nx := fun _ st' => Qd .non (if keep then st'.keepOnly st else st'), rt := fun d st' => Qd d (if keep then st'.keepOnly st else st'), ex := fun x st' => Xd x (if keep then st'.keepOnly st else st') }, ⟨⟨?_, fun i d q => ?_⟩, k⟩, ⟨fun e' st' σ' H' n S x => ?_, fun d st' v H' n x k' r' => ?_, fun x st' c H' n m x' k' => ?_, fun _ _ _ _ z => z.elim, fun _ _ _ _ z => z.elim⟩, m⟩
  · unfold L2.start
    have lr := r.length
    rw [List.length_append, List.length_append, List.length_map, List.length_map, List.length_replicate, List.length_replicate]
    omega
  · by_cases hi : i < ds.length
    · rw [List.getElem?_append_left (by simpa using hi), List.getElem?_map] at q
      cases e : ds[i]? with
      | none => rw [e] at q; cases q
      | some d' =>
        rw [e] at q; cases q
        obtain ⟨v, h1, h2⟩ := r.get e
        refine ⟨v, ?_, h2⟩
        unfold L2.start
        rw [List.getElem?_append_left (by rw [List.length_map, r.length]; exact hi), List.getElem?_map, h1]
        rfl
    · rw [List.getElem?_append_right (by simpa using hi), List.getElem?_replicate] at q
      split at q <;> cases q
  · obtain ⟨k2, x2⟩ := drop S.sto
    exact pq .non _ .non H' n (x.trans x2) k2 .non
  · obtain ⟨k2, x2⟩ := drop k'
    exact pq d _ v H' n (x.trans x2) k2 (r'.ext x2)
  · obtain ⟨k2, x2⟩ := drop k'
    exact px x _ c H' n m (x'.trans x2) k2
end
end DL
namespace DL
open PySem PySem.Spec PyProof.Rows L2
def insI (n : Int) : List Int → List Int
  | [] => [n]
  | m :: r => if n ≤ m then n :: m :: r else m :: insI n r
def sortI : List Int → List Int
  | [] => []
  | n :: r => insI n (sortI r)
theorem insI_perm (n : Int) : ∀ r, (insI n r).Perm (n :: r)
  | [] => .refl _
  | m :: r => by
    unfold insI
    split
    · exact .refl _
    · exact ((insI_perm n r).cons m).trans (.swap n m r)
theorem sortI_perm : ∀ r, (sortI r).Perm r
  | [] => .refl _
  | n :: r => (insI_perm n (sortI r)).trans ((sortI_perm r).cons n)
theorem insI_srt (n : Int) : ∀ r : List Int, r.Pairwise (· ≤ ·) → (insI n r).Pairwise (· ≤ ·)
  | [], _ => by simp [insI]
  | m :: r, h => by
    obtain ⟨h1, h2⟩ := List.pairwise_cons.mp h
    unfold insI
    split
    · rename_i le
      refine List.pairwise_cons.mpr ⟨fun x hx => ?_, h⟩
      rcases List.mem_cons.mp hx with rfl | hx
      · exact le
      · exact Int.le_trans le (h1 x hx)
    · rename_i le
      refine List.pairwise_cons.mpr ⟨fun x hx => ?_, insI_srt n r h2⟩
      rcases List.mem_cons.mp ((insI_perm n r).mem_iff.mp hx) with rfl | hx
      · omega
      · exact h1 x hx
theorem sortI_srt : ∀ r, (sortI r).Pairwise (· ≤ ·)
  | [] => .nil
  | n :: r => insI_srt n _ (sortI_srt r)
theorem sort_uniq {a b : List Int} (hp : a.Perm b) (ha : a.Pairwise (· ≤ ·)) (hb : b.Pairwise (· ≤ ·)) : a = b :=
  hp.eq_of_pairwise (fun x y _ _ h1 h2 => Int.le_antisymm h1 h2) ha hb
theorem sortI_is {a ns : List Int} (hp : a.Perm ns) (ha : a.Pairwise (· ≤ ·)) : a = sortI ns := sort_uniq (hp.trans (sortI_perm ns).symm) ha (sortI_srt ns)
theorem sortI_len (ns : List Int) : (sortI ns).length = ns.length := (sortI_perm ns).length_eq
def wMeth (T : String) (op : Sto → D → List D → Option (D × Sto)) (o : WE) (m : WA) : WE := fun e st X Q => o e st X fun x st1 => tyNm st1 x = some T ∧ m e st1 X fun ds st2 => on (op st2 x ds) fun p => Q p.1 p.2
def MeOk (K : PySem.W.Frag) (r : V → List V → Hp → VK → Prop) (op : Sto → D → List D → Option (D × Sto)) : Prop :=
  ∀ (B : Bz) (H : Hp) (st : Sto) (x : V) (dx : D) (xs : List V) (dxs : List D) (d : D) (st' : Sto) (Q : VK), StoOk K H B st → Rep K H (mu st B) dx x → RepL K H (mu st B) dxs xs → op st dx dxs = some (d, st') →
    (∀ v H', Ext H (mu st B) H' (mu st' B) → StoOk K H' B st' → Rep K H' (mu st' B) d v → Q v H') → r x xs H Q
theorem ty_V {K : PySem.W.Frag} {B : Bz} {H : Hp} {st : Sto} {x : V} {d : D} {T : String} (k : StoOk K H B st) (r : Rep K H (mu st B) d x) (e : tyNm st d = some T) (hT : T = "list" ∨ T = "dict" ∨ T = "str") : tyV K T x H := by
  cases r with
  | non => cases e; rcases hT with h | h | h <;> exact absurd h (by decide)
  | bl b => cases e; rcases hT with h | h | h <;> exact absurd h (by decide)
  | int i => cases e; rcases hT with h | h | h <;> exact absurd h (by decide)
  | str x h => cases e; rfl
  | ty n => cases e
  | exc h => cases e
  | cls x => cases e
  | tup h r z => cases e; rcases hT with h | h | h <;> exact absurd h (by decide)
  | kt h r z => cases e; rcases hT with h | h | h <;> exact absurd h (by decide)
  | lst h r z => cases e; exact .inl ⟨rfl, _, h.sq⟩
  | kl h r z => cases e; exact .inl ⟨rfl, _, h.elim (fun h => h.sq) (fun h => h.sq)⟩
  | ref a =>
    unfold tyNm at e
    simp only at e
    split at e
    · rename_i q
      cases e
      obtain ⟨o, e1, r1⟩ := k.at_ a _ q
      cases o <;> try exact r1.elim
      exact .inl ⟨rfl, _, .inl (.inl e1)⟩
    · rename_i q
      cases e
      obtain ⟨o, e1, r1⟩ := k.at_ a _ q
      cases o <;> try exact r1.elim
      exact .inr (.inr (.inl ⟨rfl, .inl ⟨_, e1⟩⟩))
    · rename_i q
      cases e
      obtain ⟨o, e1, r1⟩ := k.at_ a _ q
      cases o <;> try exact r1.elim
      exact .inr (.inr (.inl ⟨rfl, .inr ⟨_, e1⟩⟩))
    · cases e
section
variable {X : Cx} {E : XK} {a o : Expr} {mo : WE} {pos apos cpos : Pos} {name : Str} {id T : String} {es : List Expr} {n : Nat} {m : WA}
theorem e_bm {r : V → List V → Hp → VK → Prop} {op : Sto → D → List D → Option (D × Sto)} (hT : T = "list" ∨ T = "dict" ∨ T = "str") (pa : PlainAttrs T) (slot : Slot T name id) (hty : typeOf (.builtin id) = pure (.type "method_descriptor")) (hm : MtR X id r) (hk : MeOk X.K r op) (ho : PEw X E o mo) (ha : PAw X E (a :: es) n m)
    (hbase : attributeBase o name X.env (eval o X.env) = eval o X.env := by rfl)
    (hfew : ((backTo cpos (starEach (a :: es) X.env)).all (fun x => !x.1) && (backToKw cpos (keywordEach [] X.env)).all (fun x => x.1.isSome)
      && decide ((a :: es).length + ([] : List Keyword).length + (if ([] : List Keyword).isEmpty then 0 else 1) < 30)) = true := by rfl)
    (hline : (apos.endLine == cpos.line) = true := by rfl) (hs : starEach (a :: es) X.env = (false, eval a X.env) :: starEach es X.env := by rfl) (hplain : (backTo cpos (starEach es X.env)).any (·.1) = false := by rfl) :
    PEw X E (.Call (.Attribute o name apos) (a :: es) [] cpos) (wMeth T op mo m) := pe_imp (pe_bm pa slot hty hm ho ha hbase hfew hline hs hplain) fun σ H Q ⟨B, e, st, Qd, Xd, S, pq, px, mm⟩ =>
  ⟨B, e, st, _, Xd, S, fun x st1 vx H1 m1 x1 k1 r1 => ⟨ty_V k1 r1 m1.1 hT, B, e, st1, _, Xd, S.on x1 k1, fun ds st2 vs H2 m2 l2 x2 k2 r2 => by
    obtain ⟨⟨d, st3⟩, hd, q⟩ := on_iff.mp m2
    exact hk B H2 st2 vx x vs ds d st3 Q k2 (r1.ext x2) r2 hd fun v H' x3 k3 r3 => pq d st3 v H' q ((x1.trans x2).trans x3) k3 r3, px.on x1, m1.2⟩, px, mm⟩
end
def mAppend (st : Sto) (x : D) (as : List D) : Option (D × Sto) := match x, as with
  | .ref a, [y] => (cellL (st a)).bind fun ds => if ds.length < sizeLine then some (.non, st.set a (.lst (ds ++ [y]))) else none
  | _, _ => none
theorem mAppend_ok {K : PySem.W.Frag} : MeOk K rAppend mAppend := by
  intro B H st x dx xs dxs d st' Q k rx rs e g
  unfold mAppend at e
  split at e
  · obtain ⟨ds, e1, e2⟩ := Option.bind_eq_some_iff.mp e
    split at e2 <;> cases e2
    rename_i hz
    have q := cellL_iff.mp e1
    obtain ⟨u, e3, r1⟩ := k.at_ _ _ q
    cases u <;> try exact r1.elim
    rename_i ws
    cases rx
    cases rs with
    | cons r2 r3 =>
      cases r3
      have hl := r1.1.length
      obtain ⟨k2, x2⟩ := k.write (c := .lst (ds ++ _)) (o := .lst (ws ++ _)) q ⟨r1.1.append (.cons r2 .nil), by rw [List.length_append]; exact hz⟩
      exact ⟨_, ws, _, rfl, rfl, e3, by rw [hl]; exact hz, g .non _ x2 k2 .non⟩
  · cases e
end DL
namespace DL
open PySem PySem.Spec PyProof.Rows L2
/-- built-in names that the text leaves alone -/
structure Frees (mg : Str → Option Value) : Prop where
  len : mg "len" = none
  int : mg "int" = none
  bool : mg "bool" = none
  str : mg "str" = none
  list : mg "list" = none
  tuple : mg "tuple" = none
  dict : mg "dict" = none
  set : mg "set" = none
  range : mg "range" = none
  enumerate : mg "enumerate" = none
  zip : mg "zip" = none
  max : mg "max" = none
  min : mg "min" = none
  sum : mg "sum" = none
  all : mg "all" = none
  any : mg "any" = none
  sorted : mg "sorted" = none
  isinstance : mg "isinstance" = none
  repr : mg "repr" = none
  ValueError : mg "ValueError" = none
section
variable {X : Cx} {E : XK} {a b : Expr} {ma mb : WE} {pos p : Pos} {n : Nat} {m : WA}
theorem e_ty (T : String) {x : Str} (hg : Gl X x) (hm : X.mg x = none) (hv : bootBuiltins x = some (.type T)) (hn : x ≠ "__name__" := by decide) (hd : (x == ("__debug__" : Str)) = false := by decide) : PEw X E (.Name x pos) (wC (.ty T)) := e_c (pe_bltn (v := .ty T) hg hm hv rfl hn hd) fun _ _ => .ty T
theorem e_tint (fr : Frees X.mg) (hg : Gl X "int" := by rfl) : PEw X E (.Name "int" pos) (wC (.ty "int")) := e_ty "int" hg fr.int (by decide +kernel)
theorem e_tbool (fr : Frees X.mg) (hg : Gl X "bool" := by rfl) : PEw X E (.Name "bool" pos) (wC (.ty "bool")) := e_ty "bool" hg fr.bool (by decide +kernel)
theorem e_tstr (fr : Frees X.mg) (hg : Gl X "str" := by rfl) : PEw X E (.Name "str" pos) (wC (.ty "str")) := e_ty "str" hg fr.str (by decide +kernel)
theorem e_ttuple (fr : Frees X.mg) (hg : Gl X "tuple" := by rfl) : PEw X E (.Name "tuple" pos) (wC (.ty "tuple")) := e_ty "tuple" hg fr.tuple (by decide +kernel)
theorem e_gint {x : Str} {i : Int} (h : ∃ t, X.mg x = some (.int i t)) (hg : Gl X x := by rfl) (hd : (x == ("__debug__" : Str)) = false := by decide) : PEw X E (.Name x pos) (wC (.int i)) := by
  obtain ⟨t, h⟩ := h
  exact e_c (pe_glob (v := .int i) hg h ⟨t, rfl⟩ hd) fun _ _ => .int i
theorem e_gstr {x z : Str} (h : ∃ t, X.mg x = some (.str z t)) (hz : okS z = true := by decide +kernel) (hg : Gl X x := by rfl) (hd : (x == ("__debug__" : Str)) = false := by decide) : PEw X E (.Name x pos) (wC (.str z)) := by
  obtain ⟨t, h⟩ := h
  exact e_c (pe_glob (v := .str z) hg h ⟨t, rfl⟩ hd) fun _ _ => .str z hz
theorem e_len (fr : Frees X.mg) (ha : PAw X E [a] n m) (hg : Gl X "len" := by rfl) (he : starEach [a] X.env = (false, eval a X.env) :: starEach [] X.env := by rfl) : PEw X E (.Call (.Name "len" p) [a] [] pos) (wCall cLen m) :=
  e_cb call_len2 cLen_ok hg fr.len (by decide +kernel) ha (by decide) (by decide) he rfl
theorem e_toint (fr : Frees X.mg) (ha : PAw X E [a] n m) (hg : Gl X "int" := by rfl) (he : starEach [a] X.env = (false, eval a X.env) :: starEach [] X.env := by rfl) : PEw X E (.Call (.Name "int" p) [a] [] pos) (wCall cInt m) :=
  e_ct call_int1 cInt_ok hg fr.int (by decide +kernel) ha (by decide) (by decide) he rfl
theorem e_list (fr : Frees X.mg) (ha : PAw X E [a] n m) (hg : Gl X "list" := by rfl) (he : starEach [a] X.env = (false, eval a X.env) :: starEach [] X.env := by rfl) : PEw X E (.Call (.Name "list" p) [a] [] pos) (wCall cList m) :=
  e_ct call_list_of cList_ok hg fr.list (by decide +kernel) ha (by decide) (by decide) he rfl
theorem e_tuple (fr : Frees X.mg) (ha : PAw X E [a] n m) (hg : Gl X "tuple" := by rfl) (he : starEach [a] X.env = (false, eval a X.env) :: starEach [] X.env := by rfl) : PEw X E (.Call (.Name "tuple" p) [a] [] pos) (wCall cTuple m) :=
  e_ct call_tuple_of cTuple_ok hg fr.tuple (by decide +kernel) ha (by decide) (by decide) he rfl
theorem e_max2 (hc : X.calm = true) (fr : Frees X.mg) (ha : PAw X E [a, b] n m) (hg : Gl X "max" := by rfl) (he : starEach [a, b] X.env = (false, eval a X.env) :: starEach [b] X.env := by rfl) (hp : (backTo pos (starEach [b] X.env)).any (·.1) = false := by rfl) : PEw X E (.Call (.Name "max" p) [a, b] [] pos) (wCall cMax m) :=
  e_cb (call_maxW hc) cMax_ok hg fr.max (by decide +kernel) ha (by decide) (by decide) he hp
theorem e_isi (fr : Frees X.mg) (ha : PAw X E [a, b] n m) (hg : Gl X "isinstance" := by rfl) (he : starEach [a, b] X.env = (false, eval a X.env) :: starEach [b] X.env := by rfl) (hp : (backTo pos (starEach [b] X.env)).any (·.1) = false := by rfl) : PEw X E (.Call (.Name "isinstance" p) [a, b] [] pos) (wCall cIsi m) :=
  e_cb call_isi cIsi_ok hg fr.isinstance (by decide +kernel) ha (by decide) (by decide) he hp
theorem e_append {o : Expr} {mo : WE} {apos cpos : Pos} (ho : PEw X E o mo) (ha : PAw X E [a] n m) (hbase : attributeBase o "append" X.env (eval o X.env) = eval o X.env := by rfl)
    (hfew : ((backTo cpos (starEach [a] X.env)).all (fun x => !x.1) && (backToKw cpos (keywordEach [] X.env)).all (fun x => x.1.isSome)
      && decide ([a].length + ([] : List Keyword).length + (if ([] : List Keyword).isEmpty then 0 else 1) < 30)) = true := by rfl)
    (hline : (apos.endLine == cpos.line) = true := by rfl) (hs : starEach [a] X.env = (false, eval a X.env) :: starEach [] X.env := by rfl) : PEw X E (.Call (.Attribute o "append" apos) [a] [] cpos) (wMeth "list" mAppend mo m) :=
  e_bm (.inl rfl) PySem.F.plainAttrs_list PySem.F.slot_list_append PySem.F.type_list_append mt_append mAppend_ok ho ha hbase hfew hline hs rfl
end
abbrev CXp (P : Program) (w : World) : CXT := L2.CX P w
def Good (P : Program) (w : World) (K : PySem.W.Frag) (mg : Str → Option Value) (base : Heap) (k : Nat) (x : Str) (ar : Nat) (F : WF) : Prop :=
  ∃ (f : Addr) (fd : FuncData) (ps : List Str), mg x = some (.ref f) ∧ PySem.W.keepIn K (.ref f) = true ∧ Binds K fd ps [] ∧ FnOk P w K mg base (CXp P w) k f fd ps (spF K mg ar F)
theorem good_def {P : Program} {w : World} {K : PySem.W.Frag} {mg : Str → Option Value} {base : Heap} {k n ar : Nat} {x qual : Str} {params : Arguments} {body : List Stmt} {scope : Scope} {f : Addr} {fd : FuncData} {N ps : List Str} {keep : Bool} {m : WS}
    (hm : mg x = some (.ref f)) (F : FunD K x qual params body scope [] [] f fd) (hb : Binds K fd ps []) (S : FnScope N ps scope) (hn : N.length = n) (ha : ps.length = ar)
    (hbody : ∀ (cdv : Value) (A : Around) (outer : List PySem.Env) (s : Shared) (H : Hp) (E : XK), Room k (cxOf (CXp P w) P w K mg base N qual scope f cdv A outer s H E).A → PassesOwn (model P w) (cxOf (CXp P w) P w K mg base N qual scope f cdv A outer s H E).A (cxOf (CXp P w) P w K mg base N qual scope f cdv A outer s H E).env (cxOf (CXp P w) P w K mg base N qual scope f cdv A outer s H E).xe →
      Passes (CXp P w) (cxOf (CXp P w) P w K mg base N qual scope f cdv A outer s H E) E → (cxOf (CXp P w) P w K mg base N qual scope f cdv A outer s H E).A.units + 65 < cLine → Takes (cxOf (CXp P w) P w K mg base N qual scope f cdv A outer s H E) (fun c d _ H => E c d H) → PBw (cxOf (CXp P w) P w K mg base N qual scope f cdv A outer s H E) E body m) :
    Good P w K mg base (k + 1) x ar (wDef n ar keep m) := by
  refine ⟨f, fd, ps, hm, F.kp, hb, F.ok S (fun vs H Q E h => ?_) fun cdv A outer s H vs Q E hr h => ?_⟩
  · obtain ⟨B, ds, st, Qd, Xd, l, _⟩ := h
    rw [l, ha]
  · exact ⟨_, hbody cdv A outer s H E hr (passes_of rfl) (passes_call (takes_of rfl rfl rfl rfl) fun _ _ _ _ h => h) (by have := hr.un; show (A.deeper _).units + 65 < cLine; omega) (takes_of rfl rfl rfl rfl), def_in hn h⟩
section
variable {X : Cx} {E : XK} {a : Expr} {pos p : Pos} {es : List Expr} {n : Nat} {m : WA} {x : Str}
theorem e_call {k j : Nat} {F : WF} (G : Good X.prog X.w X.K X.mg X.base k x n F) (hr : Room j X.A) (hx : Passes (CXp X.prog X.w) X E) (ha : PAw X E (a :: es) n m) (hk : k ≤ j := by first | decide | exact Nat.le_refl _ | exact Nat.le_add_right_of_le (by decide)) (hg : Gl X x := by rfl)
    (hdb : (x == ("__debug__" : Str)) = false := by decide) (he : starEach (a :: es) X.env = (false, eval a X.env) :: starEach es X.env := by rfl) (hpl : (backTo pos (starEach es X.env)).any (·.1) = false := by rfl) :
    PEw X E (.Call (.Name x p) (a :: es) [] pos) (wFn F m) := by
  obtain ⟨f, fd, ps, hm, hkp, hb, H⟩ := G
  exact e_fn H (hr.mono hk) hg hm hkp hb hx ha hdb he hpl
end
end DL
namespace DL
open PySem PySem.Spec PyProof.Rows L2
theorem fn_def {P : Program} {w : World} {K : PySem.W.Frag} {mg : Str → Option Value} {base : Heap} {k n ar : Nat} {x qual : Str} {params : Arguments} {body : List Stmt} {scope : Scope} {f : Addr} {fd : FuncData} {N ps : List Str} {keep : Bool} {m : WS}
    (F : FunD K x qual params body scope [] [] f fd) (S : FnScope N ps scope) (hn : N.length = n) (ha : ps.length = ar)
    (hbody : ∀ (cdv : Value) (A : Around) (outer : List PySem.Env) (s : Shared) (H : Hp) (E : XK), Room k (cxOf (CXp P w) P w K mg base N qual scope f cdv A outer s H E).A → PassesOwn (model P w) (cxOf (CXp P w) P w K mg base N qual scope f cdv A outer s H E).A (cxOf (CXp P w) P w K mg base N qual scope f cdv A outer s H E).env (cxOf (CXp P w) P w K mg base N qual scope f cdv A outer s H E).xe →
      Passes (CXp P w) (cxOf (CXp P w) P w K mg base N qual scope f cdv A outer s H E) E → (cxOf (CXp P w) P w K mg base N qual scope f cdv A outer s H E).A.units + 65 < cLine → Takes (cxOf (CXp P w) P w K mg base N qual scope f cdv A outer s H E) (fun c d _ H => E c d H) → PBw (cxOf (CXp P w) P w K mg base N qual scope f cdv A outer s H E) E body m) :
    FnOk P w K mg base (CXp P w) (k + 1) f fd ps (spF K mg ar (wDef n ar keep m)) := by
  refine F.ok S (fun vs H Q E h => ?_) fun cdv A outer s H vs Q E hr h => ?_
  · obtain ⟨B, ds, st, Qd, Xd, l, _⟩ := h
    rw [l, ha]
  · exact ⟨_, hbody cdv A outer s H E hr (passes_of rfl) (passes_call (takes_of rfl rfl rfl rfl) fun _ _ _ _ h => h) (by have := hr.un; show (A.deeper _).units + 65 < cLine; omega) (takes_of rfl rfl rfl rfl), def_in hn h⟩
theorem noCX {P : Program} {w : World} {H : Hp} {s : Shared} {e : Value} {s' : Shared} (h : CXp P w [] H s (fun _ _ _ => False) e s') : False := by
  obtain ⟨_, _, _, _, _, _, _, _, _, _, _, _, z⟩ := h
  exact z
theorem walk_ofW {l : PySem.W.OpenLaw} {n k : Nat} {q : Program} {loose : List Str} {XP : (Str → Option Value) → Heap → Prop} {YP : World → Heap → Prop} {d : DefRec} {x : Str}
    (hn : l.most = some n) (hn2 : n ≤ sizeLine) (hdf : d.params.defaults = []) (hr : Room k callerA)
    (F : ∀ (w : World) (mg : Str → Option Value) (fa : Addr) (h : Heap), YP w h → h.Ns mainGlobals mg → mg d.name = some (.ref fa) →
      ∃ (K : PySem.W.Frag) (fd : FuncData) (sp : Sp), K.In h ∧ (∀ (s : Shared) (u : Value), BindsTo s fd ⟨[u], []⟩ [(x, u)]) ∧
        (∀ (H : Hp) (a : Addr) (ns : List Int), ns.length ≤ n → Only H → SqL K H a (ns.map V.int) → sp [.ref a] H (fun v _ => v = .bl true) fun _ _ _ => False) ∧
        ∀ base : Heap, K.In base → base.Ns mainGlobals mg → FnOk l.prog w K mg base (CXp l.prog w) k fa fd [x] sp) :
    PySem.W.WalkO q loose XP YP l.row.toRowW d [] (fun f vs => PySem.call f vs) := by
  refine Att.attach_call hn hdf fun w s₀ s₁ mg mb fa o pm cd doc a vs ns G Y ho hd hcd hmg hobj hints hlen hg => ?_
  obtain ⟨K, fd, sp, KX, hb, hsp, hF⟩ := F w mg fa _ Y G.T.g hmg
  exact law_call KX G.T.g G.T.b G.T.builtins G.T.nolimit hg hobj hints (Nat.le_trans hlen hn2) hr hF hb (fun H hO hS => hsp H a ns hlen hO hS) fun H e s' => noCX
theorem law_start {K : PySem.W.Frag} {mg : Str → Option Value} {F : WF} {H : Hp} {a : Addr} {ns : List Int} {n : Nat} (hl : ns.length ≤ n) (hn : n ≤ sizeLine) (hS : SqL K H a (ns.map V.int))
    (h : ∀ ns : List Int, ns.length ≤ n → F [.kl (ns.map D.int)] (fun _ => none) XF (fun d _ => d = .bl true)) : spF K mg 1 F [.ref a] H (fun v _ => v = .bl true) fun _ _ _ => False := by
  refine ⟨fun _ => False, [.kl (ns.map D.int)], fun _ => none, _, XF, rfl, ⟨(fun a c q => nomatch q), (fun _ z => False.elim z), (fun _ z => False.elim z)⟩, .cons (.kl ?_ (repL_ints ns) (by rw [List.length_map]; omega)) .nil, ?_, ?_, h ns hl⟩
  · rcases hS with h | h
    · exact .inl ⟨fun z => Or.elim z (fun z => z rfl) id, h⟩
    · exact .inr h
  · intro d st' v H' q x k r
    subst q
    cases r
    rfl
  · intro x st' c H' q
    exact q.elim
/-- a power of two written numbers -/
theorem e_powC {X : Cx} {E : XK} {i j v : Int} {k1 k2 : Nat} {p1 p2 pos : Pos} (hv : CPow i j ∧ i ^ j.toNat = v := by decide +kernel) : PEw X E (.BinOp (.Constant (.int i) k1 p1) .Pow (.Constant (.int j) k2 p2) pos) (wC (.int v)) :=
  pe_imp (e_pow e_int e_int) fun σ H Q ⟨B, e, st, Qd, Xd, S, pq, px, m⟩ => ⟨B, e, st, Qd, Xd, S, pq, px, by
    have h : dPow st (.int i) (.int j) = some (.int v) := by
      show (if CPow i j then some (D.int (i ^ j.toNat)) else none) = _
      rw [if_pos hv.1, hv.2]
    show on (dPow st (.int i) (.int j)) fun z => Qd z st
    rw [h]
    exact m⟩
/-- constants, folded -/
theorem wC_bin {o : Sto → D → D → Option D} {x y z : D} (h : ∀ st, o st x y = some z) : wBin o (wC x) (wC y) = wC z := by
  funext e st X Q
  show on (o st x y) (fun z => Q z st) = Q z st
  rw [h st]; rfl
theorem e_mulC {X : Cx} {E : XK} {a b : Expr} {pos : Pos} {i j v : Int} (ha : PEw X E a (wC (.int i))) (hb : PEw X E b (wC (.int j))) (hv : CMulW i j ∧ i * j = v := by decide +kernel) : PEw X E (.BinOp a .Mult b pos) (wC (.int v)) := by
  have h := e_mul (pos := pos) ha hb
  rw [wC_bin (z := .int v) fun st => by
    show (if CMulW i j then some (D.int (i * j)) else none) = _
    rw [if_pos hv.1, hv.2]] at h
  exact h
end DL
namespace DL
open PySem PySem.Spec PyProof.Rows L2
section
variable {e : Env} {st : Sto} {X : PoX} {Q : PoE} {QA : List D → Sto → Prop} {QT : Bool → Sto → Prop} {QO : Option Int → Sto → Prop} {E : WEnds} {a b c m : WE} {t u : WT} {r : WA} {s s' : WS} {o o' : Sto → D → D → Option D} {f : Sto → D → Option D} {g : Sto → List D → Option D} {d x : D} {i n : Nat}
@[simp] theorem slot_z {d : Option D} : slot (d :: e) 0 = d := id rfl
@[simp] theorem slot_s {d : Option D} : slot (d :: e) (i + 1) = slot e i := id rfl
@[simp] theorem wVar_ap : wVar i e st X Q = on (slot e i) fun d => Q d st := id rfl
@[simp] theorem wC_ap : wC d e st X Q = Q d st := id rfl
@[simp] theorem wBin_ap : wBin o a b e st X Q = a e st X fun x st1 => b e st1 X fun y st2 => on (o st2 x y) fun z => Q z st2 := id rfl
@[simp] theorem wUn_ap : wUn f a e st X Q = a e st X fun x st1 => on (f st1 x) fun z => Q z st1 := id rfl
@[simp] theorem wOr_ap : wOr a b e st X Q = a e st X fun x st1 => on (truth st1 x) fun t => if t = true then Q x st1 else b e st1 X Q := id rfl
@[simp] theorem wAnd_ap : wAnd a b e st X Q = a e st X fun x st1 => on (truth st1 x) fun t => if t = true then b e st1 X Q else Q x st1 := id rfl
@[simp] theorem wNot_ap : wNot a e st X Q = a e st X fun x st1 => on (truth st1 x) fun t => Q (.bl (!t)) st1 := id rfl
@[simp] theorem wChain_ap : wChain o o' a b c e st X Q = a e st X fun x st1 => b e st1 X fun y st2 => on (o st2 x y) fun z => on (bOf z) fun t => if t = true then c e st2 X fun w st3 => on (o' st3 y w) fun u => Q u st3 else Q (.bl false) st2 := id rfl
@[simp] theorem wNo_ap : wNo e st X QO = QO none st := id rfl
@[simp] theorem wPart_ap : wPart m e st X QO = m e st X fun d st1 => on (iOf d) fun i => QO (some i) st1 := id rfl
@[simp] theorem wSl_ap {lo hi : WO} : wSl a lo hi e st X Q = a e st X fun x st1 => lo e st1 X fun l st2 => hi e st2 X fun h st3 => on (slD st3 x l h) fun d => Q d st3 := id rfl
@[simp] theorem wNil_ap : wNil e st X QA = QA [] st := id rfl
@[simp] theorem wCons_ap : wCons m r e st X QA = m e st X fun d st1 => r e st1 X fun ds st2 => QA (d :: ds) st2 := id rfl
@[simp] theorem wTup_ap : wTup r e st X Q = r e st X fun ds st1 => Q (.tup ds) st1 := id rfl
@[simp] theorem wLst_ap : wLst r e st X Q = r e st X fun ds st1 => Q (.lst ds) st1 := id rfl
@[simp] theorem wLstR_ap : wLstR r e st X Q = r e st X fun ds st1 => ∀ p, st1 p = none → Q (.ref p) (st1.set p (.lst ds)) := id rfl
@[simp] theorem wCall_ap : wCall g r e st X Q = r e st X fun ds st1 => on (g st1 ds) fun d => Q d st1 := id rfl
@[simp] theorem wFn_ap {F : WF} : wFn F r e st X Q = r e st X fun ds st1 => F ds st1 X Q := id rfl
@[simp] theorem wTB_ap : wTB m e st X QT = m e st X fun d st1 => on (bOf d) fun b => QT b st1 := id rfl
@[simp] theorem wTT_ap : wTT m e st X QT = m e st X fun d st1 => on (truth st1 d) fun b => QT b st1 := id rfl
@[simp] theorem wTAnd_ap : wTAnd t u e st X QT = t e st X fun c st1 => if c = true then u e st1 X QT else QT false st1 := id rfl
@[simp] theorem wTOr_ap : wTOr t u e st X QT = t e st X fun c st1 => if c = true then QT true st1 else u e st1 X QT := id rfl
@[simp] theorem wTNot_ap : wTNot t e st X QT = t e st X fun c st1 => QT (!c) st1 := id rfl
@[simp] theorem wYes_ap : wYes e st X QT = QT true st := id rfl
@[simp] theorem wMeth_ap {T : String} {op : Sto → D → List D → Option (D × Sto)} : wMeth T op m r e st X Q = m e st X fun x st1 => tyNm st1 x = some T ∧ r e st1 X fun ds st2 => on (op st2 x ds) fun p => Q p.1 p.2 := id rfl
@[simp] theorem wSkip_ap : wSkip E e st = E.nx e st := id rfl
@[simp] theorem wSeq_ap : wSeq s s' E e st = s { E with nx := s' E } e st := id rfl
@[simp] theorem wSet_ap : wSet i m E e st = m e st E.ex fun d st1 => E.nx (e.set i (some d)) st1 := id rfl
@[simp] theorem wDrop_ap : wDrop m E e st = m e st E.ex fun _ st1 => E.nx e st1 := id rfl
@[simp] theorem wRet_ap : wRet m E e st = m e st E.ex E.rt := id rfl
@[simp] theorem wIfS_ap : wIfS t s s' E e st = t e st E.ex fun c st1 => if c = true then s E e st1 else s' E e st1 := id rfl
@[simp] theorem wAsg_ap {t : Tg} : wAsg t m E e st = m e st E.ex fun d st1 => on (asg t d e) fun e1 => E.nx e1 st1 := id rfl
@[simp] theorem wPut_ap {o i v : WE} : wPut o i v E e st = v e st E.ex fun dv st1 => o e st1 E.ex fun x st2 => i e st2 E.ex fun k st3 => on (putD st3 x k dv) fun st4 => E.nx e st4 := id rfl
@[simp] theorem wFor_ap {wi : WI} {t : Tg} {vs : List Nat} : wFor wi t s vs E e st = wi e st E.ex fun ds chk st1 => wForL t s vs chk E ds (fgt vs e) st1 := id rfl
@[simp] theorem wComp_ap {wi : WI} {t : Tg} {test : WT} {vs : List Nat} : wComp wi t test m vs e st X Q = wi e st X fun ds chk st1 => wCompL t test m chk (fgt vs e) (fun acc st2 => Q (.lst acc) st2) ds [] st1 := id rfl
@[simp] theorem wCompR_ap {wi : WI} {t : Tg} {test : WT} {vs : List Nat} : wCompR wi t test m vs e st X Q = wi e st X fun ds chk st1 => wCompL t test m chk (fgt vs e) (fun acc st2 => ∀ p, st2 p = none → Q (.ref p) (st2.set p (.lst acc))) ds [] st1 := id rfl
@[simp] theorem wiSeq_ap {QI : List D → (Sto → Prop) → Sto → Prop} : wiSeq m e st X QI = m e st X fun d st1 => on (sqOf st1 d) fun ds => QI ds (fun st' => sqOf st' d = some ds) st1 := id rfl
@[simp] theorem wiRange_ap {QI : List D → (Sto → Prop) → Sto → Prop} : wiRange r e st X QI = r e st X fun ds st1 => on (rangeOf ds) fun its => QI its (fun _ => True) st1 := id rfl
@[simp] theorem wiStr_ap {QI : List D → (Sto → Prop) → Sto → Prop} : wiStr m e st X QI = m e st X fun d st1 => on (match d with | .str x => if x.length ≤ sizeLine then some x else none | _ => none) fun x => QI (signs x) (fun _ => True) st1 := id rfl
@[simp] theorem wiEnum_ap {QI : List D → (Sto → Prop) → Sto → Prop} : wiEnum r e st X QI = r e st X fun as st1 => on (match as with | [d] => lsOf st1 d | _ => none) fun ds => QI (enumL 0 ds) (fun st' => (match as with | [d] => lsOf st' d | _ => none) = some ds) st1 := id rfl
@[simp] theorem wiZip_ap {QI : List D → (Sto → Prop) → Sto → Prop} : wiZip r e st X QI = r e st X fun as st1 => on (zip2 st1 as) fun p => QI (zipL p.1 p.2) (fun st' => zip2 st' as = some p) st1 := id rfl
@[simp] theorem wForL_nil {t : Tg} {vs : List Nat} {chk : Sto → Prop} : wForL t s vs chk E [] e st = (chk st ∧ E.nx e st) := id rfl
@[simp] theorem asg_nm : asg (.nm i) d e = some (e.set i (some d)) := by unfold asg; rfl
@[simp] theorem asg_tp {ts : List Tg} : asg (.tp ts) d e = (tpOf d).bind fun ds => asgs ts ds e := by unfold asg; rfl
@[simp] theorem asgs_nil : asgs [] [] e = some e := by unfold asgs; rfl
@[simp] theorem asgs_cons {t : Tg} {ts : List Tg} {ds : List D} : asgs (t :: ts) (d :: ds) e = (asg t d e).bind fun e1 => asgs ts ds e1 := by rw [asgs]
@[simp] theorem fgt_nil : fgt [] e = e := id rfl
@[simp] theorem fgt_cons {v : Nat} {vs : List Nat} : fgt (v :: vs) e = (fgt vs e).set v none := id rfl
theorem wDef_ap {keep : Bool} {ds : List D} : wDef n i keep s ds st X Q = (ds.length = i ∧
  s { nx := fun _ st' => Q .non (if keep then st'.keepOnly st else st'), rt := fun d st' => Q d (if keep then st'.keepOnly st else st'), ex := fun x st' => X x (if keep then st'.keepOnly st else st') } (ds.map some ++ List.replicate (n - ds.length) none) st) := id rfl
end
@[simp] theorem tpOf_tup {ds : List D} : tpOf (.tup ds) = some ds := id rfl
@[simp] theorem tpOf_kt {ds : List D} : tpOf (.kt ds) = some ds := id rfl
@[simp] theorem tpOf_lst {ds : List D} : tpOf (.lst ds) = none := id rfl
@[simp] theorem tpOf_ref {a : Addr} : tpOf (.ref a) = none := id rfl
@[simp] theorem truth_bl {st : Sto} {b : Bool} : truth st (.bl b) = some b := id rfl
@[simp] theorem truth_non {st : Sto} : truth st .non = some false := id rfl
@[simp] theorem truth_int {st : Sto} {i : Int} : truth st (.int i) = some (i != 0) := id rfl
@[simp] theorem truth_lst {st : Sto} {ds : List D} : truth st (.lst ds) = some !ds.isEmpty := id rfl
@[simp] theorem truth_tup {st : Sto} {ds : List D} : truth st (.tup ds) = some !ds.isEmpty := id rfl
@[simp] theorem sqOf_ref' {st : Sto} {a : Addr} : sqOf st (.ref a) = cellL (st a) := id rfl
@[simp] theorem lsOf_ref' {st : Sto} {a : Addr} : lsOf st (.ref a) = cellL (st a) := id rfl
@[simp] theorem lqOf_kl {st : Sto} {ds : List D} : lqOf st (.kl ds) = some ds := id rfl
@[simp] theorem lqOf_lst {st : Sto} {ds : List D} : lqOf st (.lst ds) = some ds := id rfl
@[simp] theorem lqOf_ref {st : Sto} {a : Addr} : lqOf st (.ref a) = cellL (st a) := id rfl
section
variable {st : Sto} {i j : Int}
@[simp] theorem dAdd_int : dAdd st (.int i) (.int j) = some (.int (i + j)) := rfl
@[simp] theorem dSub_int : dSub st (.int i) (.int j) = some (.int (i - j)) := rfl
@[simp] theorem dNeg_int : dNeg st (.int i) = some (.int (-i)) := rfl
theorem log2_le {n k : Nat} (h : n < 2 ^ (k + 1)) : n.log2 ≤ k := by
  by_cases z : n = 0
  · subst z; exact Nat.zero_le _
  · have := (Nat.log2_lt z).mpr h; omega
theorem natAbs_log2 {i : Int} (h : -(2 ^ 400) < i) (h' : i < 2 ^ 400) : i.natAbs.log2 ≤ 400 := log2_le (k := 400) (by
  have e : (2 : Int) ^ 400 = ((2 ^ 400 : Nat) : Int) := by decide +kernel
  rw [e] at h h'
  have : (2 : Nat) ^ 400 ≤ 2 ^ (400 + 1) := by decide +kernel
  omega)
/-- of the sizes that a law draws -/
abbrev Mid (i : Int) : Prop := -(10 ^ 40) ≤ i ∧ i ≤ 10 ^ 40
theorem mid_lo : -((2 : Int) ^ 400) < -(10 ^ 40) := by decide +kernel
theorem mid_hi : (10 : Int) ^ 40 < 2 ^ 400 := by decide +kernel
theorem Mid.log {i : Int} (h : Mid i) : i.natAbs.log2 ≤ 400 := natAbs_log2 (Int.lt_of_lt_of_le mid_lo h.1) (Int.lt_of_le_of_lt h.2 mid_hi)
theorem dMul_int (h : Mid i) (h' : Mid j) : dMul st (.int i) (.int j) = some (.int (i * j)) := by
  show (if CMulW i j then _ else _) = _
  rw [if_pos]
  have := h.log
  have := h'.log
  unfold CMulW
  omega
theorem dFdiv_int (h : 0 < j) (h' : Mid j) : dFdiv st (.int i) (.int j) = some (.int (i / j)) := by
  show (if CDivW i j then _ else _) = _
  rw [if_pos]
  have := h'.log
  exact ⟨h, by omega⟩
theorem dMod_int (h : 0 < j) : dMod st (.int i) (.int j) = some (.int (i % j)) := if_pos h
@[simp] theorem dLt_int : dLt st (.int i) (.int j) = some (.bl (decide (i < j))) := rfl
@[simp] theorem dLe_int : dLe st (.int i) (.int j) = some (.bl (decide (i ≤ j))) := rfl
@[simp] theorem dGt_int : dGt st (.int i) (.int j) = some (.bl (decide (j < i))) := rfl
@[simp] theorem dGe_int : dGe st (.int i) (.int j) = some (.bl (decide (j ≤ i))) := rfl
@[simp] theorem cInt_int : cInt st [.int i] = some (.int i) := rfl
@[simp] theorem cInt_bl {b : Bool} : cInt st [.bl b] = some (.int (if b then 1 else 0)) := rfl
@[simp] theorem cMax_int : cMax st [.int i, .int j] = some (.int (if j > i then j else i)) := rfl
@[simp] theorem cMin_int : cMin st [.int i, .int j] = some (.int (if j < i then j else i)) := rfl
end
theorem atI_N {α : Type} {ds : List α} {i : Nat} : atI ds (i : Int) = ds[i]? := by
  unfold atI
  by_cases h : i < ds.length
  · have e : ixN ds.length (i : Int) = some i := by
      unfold ixN
      simp; omega
    rw [e]; rfl
  · have e : ixN ds.length (i : Int) = none := by
      unfold ixN
      simp; omega
    rw [e, List.getElem?_eq_none (by omega)]; rfl
section
variable {α : Type} {a b c d e f g : α} {ds : List α}
@[simp] theorem atI_0 : atI (a :: ds) 0 = some a := atI_N (i := 0)
@[simp] theorem atI_1 : atI (a :: b :: ds) 1 = some b := atI_N (i := 1)
@[simp] theorem atI_2 : atI (a :: b :: c :: ds) 2 = some c := atI_N (i := 2)
@[simp] theorem atI_3 : atI (a :: b :: c :: d :: ds) 3 = some d := atI_N (i := 3)
@[simp] theorem atI_4 : atI (a :: b :: c :: d :: e :: ds) 4 = some e := atI_N (i := 4)
@[simp] theorem atI_5 : atI (a :: b :: c :: d :: e :: f :: ds) 5 = some f := atI_N (i := 5)
@[simp] theorem atI_6 : atI (a :: b :: c :: d :: e :: f :: g :: ds) 6 = some g := atI_N (i := 6)
end
section
variable {st : Sto} {d : D}
@[simp] theorem cIsi_int : cIsi st [d, .ty "int"] = (tyNm st d).map fun t => .bl (isiB t "int") := by unfold cIsi; simp only; rw [if_pos (by decide)]
@[simp] theorem cIsi_bool : cIsi st [d, .ty "bool"] = (tyNm st d).map fun t => .bl (isiB t "bool") := by unfold cIsi; simp only; rw [if_pos (by decide)]
@[simp] theorem cIsi_str : cIsi st [d, .ty "str"] = (tyNm st d).map fun t => .bl (isiB t "str") := by unfold cIsi; simp only; rw [if_pos (by decide)]
@[simp] theorem cIsi_tuple : cIsi st [d, .ty "tuple"] = (tyNm st d).map fun t => .bl (isiB t "tuple") := by unfold cIsi; simp only; rw [if_pos (by decide)]
@[simp] theorem cIsi_list : cIsi st [d, .ty "list"] = (tyNm st d).map fun t => .bl (isiB t "list") := by unfold cIsi; simp only; rw [if_pos (by decide)]
@[simp] theorem cIsi_dict : cIsi st [d, .ty "dict"] = (tyNm st d).map fun t => .bl (isiB t "dict") := by unfold cIsi; simp only; rw [if_pos (by decide)]
@[simp] theorem isiB_ap {t T : String} : isiB t T = if T = "int" then (t = "int" || t = "bool" : Bool) else (t = T : Bool) := rfl
@[simp] theorem tyNm_non : tyNm st .non = some "NoneType" := rfl
@[simp] theorem tyNm_bl {b : Bool} : tyNm st (.bl b) = some "bool" := rfl
@[simp] theorem tyNm_int {b : Int} : tyNm st (.int b) = some "int" := rfl
@[simp] theorem tyNm_str {b : Str} : tyNm st (.str b) = some "str" := rfl
@[simp] theorem tyNm_tup {b : List D} : tyNm st (.tup b) = some "tuple" := rfl
@[simp] theorem tyNm_kt {b : List D} : tyNm st (.kt b) = some "tuple" := rfl
@[simp] theorem tyNm_lst {b : List D} : tyNm st (.lst b) = some "list" := rfl
@[simp] theorem tyNm_kl {b : List D} : tyNm st (.kl b) = some "list" := rfl
@[simp] theorem ixD_lst {ds : List D} {i : Int} : ixD st (.lst ds) (.int i) = atI ds i := rfl
@[simp] theorem ixD_tup {ds : List D} {i : Int} : ixD st (.tup ds) (.int i) = atI ds i := rfl
@[simp] theorem ixD_kt {ds : List D} {i : Int} : ixD st (.kt ds) (.int i) = atI ds i := rfl
@[simp] theorem ixD_kl {ds : List D} {i : Int} : ixD st (.kl ds) (.int i) = atI ds i := rfl
theorem ixD_ref {a : Addr} {ds : List D} {i : Int} (h : st a = some (.lst ds)) : ixD st (.ref a) (.int i) = atI ds i := by
  show (match sqOf st (.ref a) with | some ds => _ | none => _) = _
  rw [sqOf_ref h]
theorem putD_lst {a : Addr} {ds ds' : List D} {i : Int} {v : D} (h : st a = some (.lst ds)) (p : putL ds i v = some ds') : putD st (.ref a) (.int i) v = some (st.set a (.lst ds')) := by
  unfold putD
  simp only
  rw [h]
  simp only
  rw [p]; rfl
@[simp] theorem cLen_lst {ds : List D} : cLen st [.lst ds] = some (.int ds.length) := rfl
@[simp] theorem cLen_kl {ds : List D} : cLen st [.kl ds] = some (.int ds.length) := rfl
@[simp] theorem cLen_tup {ds : List D} : cLen st [.tup ds] = some (.int ds.length) := rfl
@[simp] theorem cLen_kt {ds : List D} : cLen st [.kt ds] = some (.int ds.length) := rfl
@[simp] theorem cList_ap {d : D} : cList st [d] = (sqOf st d).map .lst := rfl
@[simp] theorem slD_lst {ds : List D} {lo hi : Option Int} : slD st (.lst ds) lo hi = some (.lst (cutD ds lo hi)) := rfl
@[simp] theorem slD_kl {ds : List D} {lo hi : Option Int} : slD st (.kl ds) lo hi = some (.lst (cutD ds lo hi)) := rfl
@[simp] theorem slD_tup {ds : List D} {lo hi : Option Int} : slD st (.tup ds) lo hi = some (.tup (cutD ds lo hi)) := rfl
end
theorem rangeOf_1 {j : Int} (h : -1000 ≤ j) (h' : j ≤ 1000000) : rangeOf [.int j] = some (rangeL 0 j) := if_pos (by unfold small62; simp; omega)
def rangeI (i j : Int) : List Int := (List.range (j - i).toNat).map fun (k : Nat) => i + (k : Int)
theorem rangeL_map {i j : Int} : rangeL i j = (rangeI i j).map .int := by
  unfold rangeL rangeI
  rw [List.map_map]; rfl
theorem mem_rangeI {i j x : Int} : x ∈ rangeI i j ↔ i ≤ x ∧ x < j := by
  unfold rangeI
  rw [List.mem_map]
  constructor
  · rintro ⟨k, hk, rfl⟩
    have := List.mem_range.mp hk
    omega
  · rintro ⟨h1, h2⟩
    exact ⟨(x - i).toNat, List.mem_range.mpr (by omega), by omega⟩
theorem rangeI_len {i j : Int} : (rangeI i j).length = (j - i).toNat := by
  unfold rangeI
  rw [List.length_map, List.length_range]
mutual
/-- data without truth values, of depth n at most -/
def pl : Nat → D → Bool
  | _, .non => true
  | _, .bl _ => true
  | _, .int _ => true
  | _, .str _ => true
  | n, .tup ds => n != 0 && plL (n - 1) ds
  | n, .kt ds => n != 0 && plL (n - 1) ds
  | n, .lst ds => n != 0 && plL (n - 1) ds
  | _, .kl _ => false
  | _, .ref _ => false
  | _, .ty _ => false
  | _, .exc _ => false
  | _, .cls _ => false
def plL : Nat → List D → Bool
  | _, [] => true
  | n, d :: ds => pl n d && plL n ds
end
@[simp] theorem pl_non {n : Nat} : pl n .non = true := by unfold pl; rfl
@[simp] theorem pl_bl {n : Nat} {b : Bool} : pl n (.bl b) = true := by unfold pl; rfl
@[simp] theorem pl_int {n : Nat} {i : Int} : pl n (.int i) = true := by unfold pl; rfl
@[simp] theorem pl_str {n : Nat} {x : Str} : pl n (.str x) = true := by unfold pl; rfl
@[simp] theorem pl_tup {n : Nat} {ds : List D} : pl n (.tup ds) = (n != 0 && plL (n - 1) ds) := by rw [pl]
@[simp] theorem pl_kt {n : Nat} {ds : List D} : pl n (.kt ds) = (n != 0 && plL (n - 1) ds) := by rw [pl]
@[simp] theorem pl_lst {n : Nat} {ds : List D} : pl n (.lst ds) = (n != 0 && plL (n - 1) ds) := by rw [pl]
@[simp] theorem plL_nil {n : Nat} : plL n [] = true := by unfold plL; rfl
@[simp] theorem plL_cons {n : Nat} {d : D} {ds : List D} : plL n (d :: ds) = (pl n d && plL n ds) := by rw [plL]
theorem plL_all {n : Nat} : ∀ {ds : List D}, plL n ds = true ↔ ∀ d ∈ ds, pl n d = true
  | [] => by simp
  | d :: ds => by simp [plL_all]
theorem plL_map {α : Type} {n : Nat} {f : α → D} {l : List α} (h : ∀ x ∈ l, pl n (f x) = true) : plL n (l.map f) = true := plL_all.mpr fun d hd => by
  obtain ⟨x, hx, rfl⟩ := List.mem_map.mp hd
  exact h x hx
@[simp] theorem plL_ints {n : Nat} {l : List Int} : plL n (l.map D.int) = true := plL_map fun _ _ => pl_int
@[simp] theorem plL_strs {n : Nat} {l : List Str} : plL n (l.map D.str) = true := plL_map fun _ _ => pl_str
@[simp] theorem plL_append {n : Nat} {a b : List D} : plL n (a ++ b) = (plL n a && plL n b) := by
  induction a with
  | nil => simp
  | cons d a ih => simp [ih, Bool.and_assoc]
mutual
theorem pl_py : ∀ {n : Nat} {d : D}, pl n d = true → ∃ p, toPy d = some p ∧ p.depth ≤ n ∧ PyData.eqv p p = true
  | n, .non, _ => ⟨.none, by unfold toPy; rfl, by unfold PyData.depth; omega, by rw [PyData.eqv]⟩
  | n, .bl b, _ => ⟨.bool b, by unfold toPy; rfl, by unfold PyData.depth; omega, by rw [PyData.eqv]; exact beq_self_eq_true _⟩
  | n, .int b, _ => ⟨.int b, by unfold toPy; rfl, by unfold PyData.depth; omega, by rw [PyData.eqv]; exact beq_self_eq_true _⟩
  | n, .str b, _ => ⟨.str b, by unfold toPy; rfl, by unfold PyData.depth; omega, by rw [PyData.eqv]; exact beq_self_eq_true _⟩
  | n, .tup ds, k => by
    simp at k
    obtain ⟨ps, h1, h2, h3⟩ := plL_py k.2
    exact ⟨.tuple ps, by unfold toPy; rw [h1]; rfl, by unfold PyData.depth; omega, by rw [PyData.eqv]; exact h3⟩
  | n, .kt ds, k => by
    simp at k
    obtain ⟨ps, h1, h2, h3⟩ := plL_py k.2
    exact ⟨.tuple ps, by unfold toPy; rw [h1]; rfl, by unfold PyData.depth; omega, by rw [PyData.eqv]; exact h3⟩
  | n, .lst ds, k => by
    simp at k
    obtain ⟨ps, h1, h2, h3⟩ := plL_py k.2
    exact ⟨.list ps, by unfold toPy; rw [h1]; rfl, by unfold PyData.depth; omega, by rw [PyData.eqv]; exact h3⟩
  | _, .kl _, k => by rw [pl] at k; cases k
  | _, .ref _, k => by rw [pl] at k; cases k
  | _, .ty _, k => by rw [pl] at k; cases k
  | _, .exc _, k => by rw [pl] at k; cases k
  | _, .cls _, k => by rw [pl] at k; cases k
theorem plL_py : ∀ {n : Nat} {ds : List D}, plL n ds = true → ∃ ps, toPyL ds = some ps ∧ PyData.depthAll ps ≤ n ∧ PyData.eqvAll ps ps = true
  | n, [], _ => ⟨[], by unfold toPyL; rfl, by unfold PyData.depthAll; omega, by rw [PyData.eqvAll]⟩
  | n, d :: ds, k => by
    simp at k
    obtain ⟨p, h1, h2, h3⟩ := pl_py k.1
    obtain ⟨ps, h4, h5, h6⟩ := plL_py k.2
    exact ⟨p :: ps, by rw [toPyL, h1, h4], by rw [PyData.depthAll]; omega, by rw [PyData.eqvAll, h3, h6]; rfl⟩
end
/-- what a name tells, a changed list read -/
def rd (st : Sto) : D → D
  | .ref a => match cellL (st a) with | some ds => .lst ds | none => .ref a
  | d => d
theorem pyOf_rd {st : Sto} {d : D} {p : PyData} (h : toPy (rd st d) = some p) : pyOf st d = some p := by
  cases d with
  | ref a =>
    unfold rd at h
    simp only at h
    unfold pyOf
    simp only
    split at h
    · rename_i ds e
      rw [e]
      rw [toPy] at h
      exact h
    · rw [toPy] at h; cases h
  | _ => exact h
theorem eqB_same {st : Sto} {x y d : D} (hx : rd st x = d) (hy : rd st y = d) (h : pl 64 d = true) : eqB st x y = some true := by
  obtain ⟨p, h1, h2, h3⟩ := pl_py h
  unfold eqB
  rw [pyOf_rd (hx ▸ h1), pyOf_rd (hy ▸ h1)]
  show eqvM p p = _
  unfold eqvM
  rw [if_pos (by omega), h3]
theorem dEq_self {st : Sto} {d : D} (h : pl 64 d = true) : dEq st d d = some (.bl true) := by
  have e : rd st d = d := by cases d <;> first | rfl | (rw [pl] at h; cases h)
  unfold dEq; rw [eqB_same e e h]; rfl
theorem eqB_int {st : Sto} {i j : Int} : eqB st (.int i) (.int j) = some (decide (i = j)) := by
  show eqvM (.int i) (.int j) = _
  unfold eqvM
  rw [if_pos (by unfold PyData.depth; omega), PyData.eqv]
  rfl
@[simp] theorem dEq_int {st : Sto} {i j : Int} : dEq st (.int i) (.int j) = some (.bl (decide (i = j))) := by unfold dEq; rw [eqB_int]; rfl
@[simp] theorem dNe_int {st : Sto} {i j : Int} : dNe st (.int i) (.int j) = some (.bl (!decide (i = j))) := by unfold dNe; rw [eqB_int]; rfl
theorem wForL_typed {α : Type} {enc : α → D} {t : Tg} {s : WS} {vs : List Nat} {chk : Sto → Prop} {E : WEnds} (I : List α → Env → Sto → Prop) (hc : ∀ r e st, I r e st → chk st) (h0 : ∀ e st, I [] e st → E.nx e st)
    (h1 : ∀ x r e st (N : Env → Sto → Prop), I (x :: r) e st → (∀ e2 st2, I r e2 st2 → N e2 st2) → on (asg t (enc x) e) fun e1 => s { E with nx := fun e2 st2 => N (fgt vs e2) st2, ct := fun e2 st2 => N (fgt vs e2) st2, bk := E.nx } e1 st) :
    ∀ l e st, I l e st → wForL t s vs chk E (l.map enc) e st
  | [], e, st, h => ⟨hc _ _ _ h, h0 _ _ h⟩
  | d :: ds, e, st, h => ⟨hc _ _ _ h, h1 d ds e st (fun e2 st2 => wForL t s vs chk E (ds.map enc) e2 st2) h fun e2 st2 => wForL_typed I hc h0 h1 ds e2 st2⟩
theorem compL_imp {α : Type} {t : Tg} {test : WT} {elt : WE} {chk : Sto → Prop} {e0 : Env} {Q : List D → Sto → Prop} {st : Sto} {enc : α → D} (e1 : α → Env) (p : α → Bool) (g : α → D) :
    ∀ {l : List α} {acc : List D} (_ : ∀ x ∈ l, asg t (enc x) e0 = some (e1 x)) (_ : ∀ x ∈ l, ∀ Q : Bool → Sto → Prop, Q (p x) st → test (e1 x) st XF Q) (_ : ∀ x ∈ l, p x = true → ∀ Q : PoE, Q (g x) st → elt (e1 x) st XF Q) (_ : chk st),
      Q (acc ++ (l.filter p).map g) st → wCompL t test elt chk e0 Q (l.map enc) acc st
  | [], acc, _, _, _, hc, q => by
    show (chk st ∧ Q acc st)
    simpa [hc] using q
  | x :: l, acc, ha, ht, he, hc, q => by
    show (chk st ∧ on (asg t (enc x) e0) fun e1 => test e1 st XF fun b st1 => if b = true then elt e1 st1 XF fun y st2 => wCompL t test elt chk e0 Q (l.map enc) (acc ++ [y]) st2 else wCompL t test elt chk e0 Q (l.map enc) acc st1)
    rw [ha x List.mem_cons_self, on_some]
    refine ⟨hc, ht x List.mem_cons_self _ ?_⟩
    have ih := fun acc => compL_imp (Q := Q) e1 p g (l := l) (acc := acc) (fun y hy => ha y (List.mem_cons_of_mem _ hy)) (fun y hy => ht y (List.mem_cons_of_mem _ hy)) (fun y hy => he y (List.mem_cons_of_mem _ hy)) hc
    by_cases hp : p x = true
    · rw [if_pos hp]
      refine he x List.mem_cons_self hp _ (ih _ ?_)
      rw [List.filter_cons_of_pos hp] at q
      simpa using q
    · rw [if_neg hp]
      refine ih _ ?_
      rw [List.filter_cons_of_neg hp] at q
      exact q
theorem dAdd_lst {st : Sto} {a b : List D} (h : a.length + b.length ≤ sizeLine) : dAdd st (.lst a) (.lst b) = some (.lst (a ++ b)) := by
  show catL a b = _
  unfold catL
  rw [if_pos h]
theorem cutD_to {ds : List D} {n : Int} (h : 0 ≤ n) : DL.cutD ds none (some n) = ds.take n.toNat := by
  have e : HT.sIx ds.length ds.length (some n) = min n.toNat ds.length := by
    unfold HT.sIx
    simp only
    rw [if_neg (by omega)]
  have e0 : HT.sIx ds.length 0 none = 0 := rfl
  unfold DL.cutD
  rw [e, e0]
  simp only [List.drop_zero, Nat.sub_zero]
  rw [List.take_eq_take_iff]
  omega
end DL
namespace DL
open PySem PySem.Spec PyProof.Rows L2
theorem map_inj_of {α β : Type} {f : α → β} (hf : ∀ x y, f x = f y → x = y) : ∀ {a b : List α}, a.map f = b.map f → a = b
  | [], [], _ => rfl
  | [], _ :: _, h => by simp at h
  | _ :: _, [], h => by simp at h
  | x :: a, y :: b, h => by
    simp only [List.map_cons, List.cons.injEq] at h
    rw [hf x y h.1, map_inj_of hf h.2]
theorem ofString_inj {a b : String} : Str.ofString a = Str.ofString b ↔ a = b := by
  constructor
  · intro h
    rw [Str.ofString_eq_toList, Str.ofString_eq_toList] at h
    have h1 := congrArg (fun s : Str => s.cps.toList) h
    simp only at h1
    have h2 : a.toList = b.toList := map_inj_of (fun x y e => Char.toNat_inj.mp e) h1
    exact String.toList_inj.mp h2
  · intro h; rw [h]
theorem eqB_str {st : Sto} {x y : Str} : eqB st (.str x) (.str y) = some (decide (x = y)) := by
  show eqvM (.str x) (.str y) = _
  unfold eqvM
  rw [if_pos (by unfold PyData.depth; omega), PyData.eqv]
  rfl
@[simp] theorem dEq_str {st : Sto} {x y : Str} : dEq st (.str x) (.str y) = some (.bl (decide (x = y))) := by unfold dEq; rw [eqB_str]; rfl
@[simp] theorem dNe_str {st : Sto} {x y : Str} : dNe st (.str x) (.str y) = some (.bl (!decide (x = y))) := by unfold dNe; rw [eqB_str]; rfl
theorem seq_via {s s' : WS} {E : WEnds} {e : Env} {st : Sto} (J : Env → Sto → Prop) (h2 : ∀ N : Env → Sto → Prop, (∀ e st, J e st → N e st) → s { E with nx := N } e st) (h1 : ∀ e st, J e st → s' E e st) : wSeq s s' E e st := h2 (s' E) h1
theorem compL_inv {α : Type} {t : Tg} {test : WT} {elt : WE} {chk : Sto → Prop} {e0 : Env} {Q : List D → Sto → Prop} {enc : α → D} (I : List D → List α → Sto → Prop) (hc : ∀ acc r st, I acc r st → chk st) (h0 : ∀ acc st, I acc [] st → Q acc st)
    (h1 : ∀ x r acc st (N : List D → Sto → Prop), I acc (x :: r) st → (∀ acc' st', I acc' r st' → N acc' st') → on (asg t (enc x) e0) fun e1 => test e1 st XF fun b st1 => if b = true then elt e1 st1 XF fun y st2 => N (acc ++ [y]) st2 else N acc st1) :
    ∀ l acc st, I acc l st → wCompL t test elt chk e0 Q (l.map enc) acc st
  | [], acc, st, h => ⟨hc _ _ _ h, h0 _ _ h⟩
  | x :: l, acc, st, h => ⟨hc _ _ _ h, h1 x l acc st (fun acc st => wCompL t test elt chk e0 Q (l.map enc) acc st) h fun acc' st' => compL_inv I hc h0 h1 l acc' st'⟩
@[simp] theorem dMul_01 {st : Sto} {b : Bool} {j : Int} (h : Mid j) : dMul st (.int (if b = true then 1 else 0)) (.int j) = some (.int (if b = true then j else 0)) := by
  rw [dMul_int (by cases b <;> decide) h]
  cases b <;> simp
@[simp] theorem cTuple_lst {st : Sto} {ds : List D} : cTuple st [.lst ds] = some (.tup ds) := rfl
@[simp] theorem cTuple_tup {st : Sto} {ds : List D} : cTuple st [.tup ds] = some (.tup ds) := rfl
theorem maxL_snoc {n : Int} : ∀ {l : List Int} {m : Int}, maxL m (l ++ [n]) = if n > maxL m l then n else maxL m l
  | [], m => rfl
  | x :: l, m => by
    show maxL (if x > m then x else m) (l ++ [n]) = if n > maxL (if x > m then x else m) l then n else maxL (if x > m then x else m) l
    exact maxL_snoc
end DL
namespace DL
open PySem PySem.Spec PyProof.Rows L2
def rgN (d : D) : Option (List D) := match d with
  | .int n => if small62 n = true then some (rangeL 0 n) else none
  | _ => none
def wListRg (m : WE) : WE := fun e st X Q => m e st X fun d st1 => on (rgN d) fun ds => Q (.lst ds) st1
def wListRgR (m : WE) : WE := fun e st X Q => m e st X fun d st1 => on (rgN d) fun ds => ∀ p, st1 p = none → Q (.ref p) (st1.set p (.lst ds))
def wTupRg (m : WE) : WE := fun e st X Q => m e st X fun d st1 => on (rgN d) fun ds => Q (.tup ds) st1
section
variable {e : Env} {st : Sto} {X : PoX} {Q : PoE} {m : WE}
@[simp] theorem wListRg_ap : wListRg m e st X Q = m e st X fun d st1 => on (rgN d) fun ds => Q (.lst ds) st1 := id rfl
@[simp] theorem wListRgR_ap : wListRgR m e st X Q = m e st X fun d st1 => on (rgN d) fun ds => ∀ p, st1 p = none → Q (.ref p) (st1.set p (.lst ds)) := id rfl
@[simp] theorem wTupRg_ap : wTupRg m e st X Q = m e st X fun d st1 => on (rgN d) fun ds => Q (.tup ds) st1 := id rfl
end
def Sto.del (st : Sto) (a : Addr) : Sto := fun b => if b = a then none else st b
theorem Sto.del_ne {st : Sto} {a b : Addr} (h : b ≠ a) : st.del a b = st b := by unfold Sto.del; rw [if_neg h]
def frzD (d : D) (st : Sto) : D × Sto := match d with
  | .ref a => match cellL (st a) with
    | some ds => (.lst ds, st.del a)
    | none => (d, st)
  | d => (d, st)
def wFrz (m : WE) : WE := fun e st X Q => m e st X fun d st1 => Q (frzD d st1).1 (frzD d st1).2
@[simp] theorem wFrz_ap {m : WE} {e : Env} {st : Sto} {X : PoX} {Q : PoE} : wFrz m e st X Q = m e st X fun d st1 => Q (frzD d st1).1 (frzD d st1).2 := id rfl
def rangeDn (i j : Int) : List Int := (List.range (i - j).toNat).map fun (k : Nat) => i - (k : Int)
def downOf : List D → Option (List D)
  | [.int i, .int j, .int k] => if k = -1 ∧ small62 i = true ∧ small62 j = true then some ((rangeDn i j).map .int) else none
  | _ => none
def wiDown (m : WA) : WI := fun e st X Q => m e st X fun ds st1 => on (downOf ds) fun its => Q its (fun _ => True) st1
@[simp] theorem wiDown_ap {m : WA} {e : Env} {st : Sto} {X : PoX} {QI : List D → (Sto → Prop) → Sto → Prop} : wiDown m e st X QI = m e st X fun ds st1 => on (downOf ds) fun its => QI its (fun _ => True) st1 := id rfl
end DL
namespace DL
open PySem PySem.Spec PyProof.Rows L2
section
variable {st : Sto} {ds : List D}
theorem toPyL_nil_iff {ps : List PyData} (h : toPyL ds = some ps) : ps.isEmpty = ds.isEmpty := by
  cases ds with
  | nil => unfold toPyL at h; cases h; rfl
  | cons d ds =>
    rw [toPyL] at h
    split at h <;> cases h
    rfl
theorem eqB_lnil (h : plL 63 ds = true) : eqB st (.lst ds) (.lst []) = some ds.isEmpty := by
  obtain ⟨ps, h1, h2, h3⟩ := plL_py h
  unfold eqB
  have e1 : pyOf st (.lst ds) = some (.list ps) := by
    show toPy (.lst ds) = _
    rw [toPy, h1]; rfl
  have e2 : pyOf st (.lst []) = some (.list []) := by
    show toPy (.lst []) = _
    rw [toPy, toPyL]; rfl
  rw [e1, e2]
  show eqvM (.list ps) (.list []) = _
  unfold eqvM
  rw [if_pos (by unfold PyData.depth; omega), PyData.eqv, ← toPyL_nil_iff h1]
  cases ps <;> simp [PyData.eqvAll]
theorem dEq_lnil (h : plL 63 ds = true) : dEq st (.lst ds) (.lst []) = some (.bl ds.isEmpty) := by unfold dEq; rw [eqB_lnil h]; rfl
theorem dNe_lnil (h : plL 63 ds = true) : dNe st (.lst ds) (.lst []) = some (.bl !ds.isEmpty) := by unfold dNe; rw [eqB_lnil h]; rfl
theorem toPyL_ints : ∀ {ns : List Int}, toPyL (ns.map D.int) = some (ns.map PyData.int)
  | [] => by rw [List.map_nil, toPyL]; rfl
  | n :: ns => by rw [List.map_cons, toPyL, toPyL_ints, toPy]; rfl
theorem anyEq_int {x : Int} {ns : List Int} : anyEq st (ns.map D.int) (.int x) = some (decide (x ∈ ns)) := by
  unfold anyEq
  rw [toPyL_ints]
  show (if PyData.depth (.int x) ≤ 60 then some ((ns.map PyData.int).any fun z => PyData.eqv z (.int x)) else none) = _
  rw [if_pos (by unfold PyData.depth; omega)]
  congr 1
  rw [List.any_map, Bool.eq_iff_iff, decide_eq_true_iff]
  simp only [List.any_eq_true, Function.comp]
  constructor
  · rintro ⟨y, hy, e⟩
    rw [PyData.eqv] at e
    have : y = x := by simpa using e
    exact this ▸ hy
  · intro h
    exact ⟨x, h, by rw [PyData.eqv]; simp⟩
@[simp] theorem dIn_ints_lst {x : Int} {ns : List Int} : dIn st (.int x) (.lst (ns.map D.int)) = some (.bl (decide (x ∈ ns))) := by
  show (inB st (.int x) (.lst (ns.map D.int))).map D.bl = _
  show (anyEq st (ns.map D.int) (.int x)).map D.bl = _
  rw [anyEq_int]; rfl
@[simp] theorem dNotIn_ints_lst {x : Int} {ns : List Int} : dNotIn st (.int x) (.lst (ns.map D.int)) = some (.bl (!decide (x ∈ ns))) := by
  show (anyEq st (ns.map D.int) (.int x)).map (fun b => D.bl (!b)) = _
  rw [anyEq_int]; rfl
@[simp] theorem dIn_ints_tup {x : Int} {ns : List Int} : dIn st (.int x) (.tup (ns.map D.int)) = some (.bl (decide (x ∈ ns))) := by
  show (anyEq st (ns.map D.int) (.int x)).map D.bl = _
  rw [anyEq_int]; rfl
@[simp] theorem dNotIn_ints_tup {x : Int} {ns : List Int} : dNotIn st (.int x) (.tup (ns.map D.int)) = some (.bl (!decide (x ∈ ns))) := by
  show (anyEq st (ns.map D.int) (.int x)).map (fun b => D.bl (!b)) = _
  rw [anyEq_int]; rfl
@[simp] theorem dRev_lst : dRev st (.lst ds) = some (.lst ds.reverse) := rfl
theorem sIx_to {n d : Nat} {i : Int} (h0 : 0 ≤ i) : HT.sIx n d (some i) = min i.toNat n := by
  unfold HT.sIx
  simp only
  rw [if_neg (by omega)]
theorem cutD_from {i : Int} (h : 0 ≤ i) : DL.cutD ds (some i) none = ds.drop i.toNat := by
  have e1 : HT.sIx ds.length ds.length none = ds.length := rfl
  unfold DL.cutD
  rw [sIx_to h, e1, List.take_of_length_le (by rw [List.length_drop]; omega)]
  by_cases hi : i.toNat ≤ ds.length
  · rw [Nat.min_eq_left hi]
  · rw [Nat.min_eq_right (by omega), List.drop_eq_nil_of_le (by omega), List.drop_eq_nil_of_le (by omega)]
end
end DL
namespace DL
open PySem PySem.Spec PyProof.Rows L2
inductive At where
  | i (k : Int) | s (x : Str) | no
  deriving DecidableEq
def At.d : At → D
  | .i k => .int k
  | .s x => .str x
  | .no => .non
def At.p : At → PyData
  | .i k => .int k
  | .s x => .str x
  | .no => .none
def At.t (l : List At) : D := .tup (l.map At.d)
@[simp] theorem dIs_non {st : Sto} {x : D} : dIs st x .non = some (.bl (isN x)) := rfl
@[simp] theorem dIsNot_non {st : Sto} {x : D} : dIsNot st x .non = some (.bl (!isN x)) := rfl
@[simp] theorem isN_non : isN .non = true := rfl
@[simp] theorem isN_tup {ds : List D} : isN (.tup ds) = false := rfl
@[simp] theorem isN_int {i : Int} : isN (.int i) = false := rfl
@[simp] theorem isN_str {i : Str} : isN (.str i) = false := rfl
end DL
namespace DL
open PySem PySem.Spec PyProof.Rows L2
def itemsI : List (L2.Key × D) → Option (List (Int × Int))
  | [] => some []
  | (.inl k, .int v) :: r => (itemsI r).map ((k, v) :: ·)
  | _ => none
def itemsOf (st : Sto) (d : D) : Option (List (Int × Int)) := match d with
  | .ref a => (cellKV (st a)).bind itemsI
  | _ => none
def insP (n : Int × Int) : List (Int × Int) → List (Int × Int)
  | [] => [n]
  | m :: r => if SrtO.lexB m n = false then n :: m :: r else m :: insP n r
def sortP : List (Int × Int) → List (Int × Int)
  | [] => []
  | n :: r => insP n (sortP r)
def pairD (z : Int × Int) : D := .tup [.int z.1, .int z.2]
def wSortIt (m : WE) : WE := fun e st X Q => m e st X fun d st1 => on (itemsOf st1 d) fun ks => ks.length ≤ sizeLine ∧ Q (.lst ((sortP ks).map pairD)) st1
@[simp] theorem wSortIt_ap {m : WE} {e : Env} {st : Sto} {X : PoX} {Q : PoE} : wSortIt m e st X Q = m e st X fun d st1 => on (itemsOf st1 d) fun ks => ks.length ≤ sizeLine ∧ Q (.lst ((sortP ks).map pairD)) st1 := id rfl
end DL
namespace DL
open PySem PySem.Spec PyProof.Rows L2
def wDictR : WE := fun _ st _ Q => ∀ p, st p = none → Q (.ref p) (st.set p (.dk []))
@[simp] theorem wDictR_ap {e : Env} {st : Sto} {X : PoX} {Q : PoE} : wDictR e st X Q = ∀ p, st p = none → Q (.ref p) (st.set p (.dk [])) := id rfl
def isDct : Option Cell → Bool
  | some (.dk _) => true
  | some (.dt _) => true
  | _ => false
def dctOf (st : Sto) : D → Option Addr
  | .ref a => if isDct (st a) = true then some a else none
  | _ => none
def wGet2 (o k x : WE) : WE := fun e st X Q => o e st X fun d st1 => on (dctOf st1 d) fun a => k e st1 X fun y st2 => x e st2 X fun z st3 => on (dctGet (st3 a) y) fun r => Q (r.getD z) st3
@[simp] theorem wGet2_ap {o k x : WE} {e : Env} {st : Sto} {X : PoX} {Q : PoE} : wGet2 o k x e st X Q = o e st X fun d st1 => on (dctOf st1 d) fun a => k e st1 X fun y st2 => x e st2 X fun z st3 => on (dctGet (st3 a) y) fun r => Q (r.getD z) st3 := id rfl
end DL
namespace DL
open PySem PySem.Spec PyProof.Rows L2
def pairsL : List D → Option (List (L2.Key × D))
  | [] => some []
  | .tup [k, v] :: r => (keyOf k).bind fun k => (pairsL r).map ((k, v) :: ·)
  | _ => none
def mergeD (kvs more : List (L2.Key × D)) : List (L2.Key × D) := more.foldl (fun acc kv => putKD acc kv.1 kv.2) kvs
def wDictP (m : WA) : WE := fun e st X Q => m e st X fun ds st1 => on (match ds with | [d] => (lsOf st1 d).bind pairsL | _ => none) fun kvs => ∀ p, st1 p = none → Q (.ref p) (st1.set p (.dk (mergeD [] kvs)))
@[simp] theorem wDictP_ap {m : WA} {e : Env} {st : Sto} {X : PoX} {Q : PoE} : wDictP m e st X Q = m e st X fun ds st1 => on (match ds with | [d] => (lsOf st1 d).bind pairsL | _ => none) fun kvs => ∀ p, st1 p = none → Q (.ref p) (st1.set p (.dk (mergeD [] kvs))) := id rfl
theorem mergeD_rep {K : PySem.W.Frag} {H : Hp} {M : Mu} : ∀ {more : List (L2.Key × D)} {wm : List (L2.Key × V)} {kvs : List (L2.Key × D)} {ws : List (L2.Key × V)}, wm.map (·.1) = more.map (·.1) → RepL K H M (more.map (·.2)) (wm.map (·.2)) → ws.map (·.1) = kvs.map (·.1) → RepL K H M (kvs.map (·.2)) (ws.map (·.2)) →
    (mergeK ws wm).map (·.1) = (mergeD kvs more).map (·.1) ∧ RepL K H M ((mergeD kvs more).map (·.2)) ((mergeK ws wm).map (·.2))
  | [], wm, kvs, ws, e, _, e2, r2 => by
    cases wm with
    | nil => exact ⟨e2, r2⟩
    | cons _ _ => simp at e
  | p :: more, wm, kvs, ws, e, r, e2, r2 => by
    cases wm with
    | nil => simp at e
    | cons w wm =>
      obtain ⟨w1, w2⟩ := w
      obtain ⟨p1, p2⟩ := p
      simp only [List.map_cons, List.cons.injEq] at e
      rw [List.map_cons, List.map_cons] at r
      cases r with
      | cons ra rb =>
        obtain ⟨e0, e3⟩ := e
        have e0 : w1 = p1 := e0
        subst e0
        exact mergeD_rep (more := more) (wm := wm) (kvs := putKD kvs w1 p2) (ws := putK ws w1 w2) e3 rb (putKD_fst e2) (putKD_rep ra e2 r2)
end DL
namespace DL
open PySem PySem.Spec PyProof.Rows L2
section
variable {st : Sto} {X : PoX} {Q : PoE} {n m : Int}
theorem emod_b (x : Int) {k : Int} (h : 0 < k) : 0 ≤ x % k ∧ x % k < k := ⟨Int.emod_nonneg _ (by omega), Int.emod_lt_of_pos _ h⟩
end
def reachI (ns : List Int) (m : Int) : Int := if (ns.length : Int) < m / 2 + 1 then 0 else ((sortI ns).reverse)[(m / 2).toNat]?.getD 0
end DL
namespace DL
open PySem PySem.Spec PyProof.Rows L2
/-- an entry of a log -/
inductive En where
  | ask (n : Str) (k : Int) (p : Str) (u : Int) | got (n : Str) (k h u : Int) | no (n : Str) (k h : Int) | back (n : Str) (k : Int) | word (n : Str) (h k u : Int) | free (n : Str) (h k : Int)
  deriving DecidableEq
def En.kind : En → String
  | .ask .. => "ask" | .got .. => "got" | .no .. => "no" | .back .. => "back" | .word .. => "word" | .free .. => "free"
def En.name : En → Str
  | .ask n .. => n | .got n .. => n | .no n .. => n | .back n .. => n | .word n .. => n | .free n .. => n
def En.i2 : En → Int
  | .ask _ k .. => k | .got _ k .. => k | .no _ k _ => k | .back _ k => k | .word _ h .. => h | .free _ h _ => h
def En.tl : En → List D
  | .ask _ _ p u => [.str p, .int u] | .got _ _ h u => [.int h, .int u] | .no _ _ h => [.int h] | .back _ _ => [] | .word _ _ k u => [.int k, .int u] | .free _ _ k => [.int k]
/-- one to eight small letters -/
def nameOk (x : Str) : Bool := decide (1 ≤ x.length) && decide (x.length ≤ 8) && x.cps.toList.all fun c => decide (97 ≤ c) && decide (c ≤ 122)
def strOk : D → Bool
  | .str x => nameOk x
  | _ => false
/-- what is drawn: numbers and ends from 1 on, houses below m -/
def En.okn (m : Int) : En → Prop
  | .ask _ k p u => 1 ≤ k ∧ 1 ≤ u ∧ nameOk p = true
  | .got _ k h u => 1 ≤ k ∧ 0 ≤ h ∧ h < m ∧ 1 ≤ u
  | .no _ k h => 1 ≤ k ∧ 0 ≤ h ∧ h < m
  | .back _ k => 1 ≤ k
  | .word _ h k u => 1 ≤ k ∧ 0 ≤ h ∧ h < m ∧ 1 ≤ u
  | .free _ h k => 1 ≤ k ∧ 0 ≤ h ∧ h < m
def En.ok (m : Int) (e : En) : Prop := nameOk e.name = true ∧ e.okn m
instance {m : Int} {e : En} : Decidable (e.ok m) := by
  unfold En.ok
  cases e <;> (unfold En.okn; infer_instance)
def En.d (e : En) : D := .tup (.str (Str.ofString e.kind) :: .str e.name :: .int e.i2 :: e.tl)
section
variable {st : Sto} {e : En}
@[simp] theorem ixD_En0 : ixD st e.d (.int 0) = some (.str (Str.ofString e.kind)) := by rw [En.d, ixD_tup, atI_0]
@[simp] theorem ixD_En1 : ixD st e.d (.int 1) = some (.str e.name) := by rw [En.d, ixD_tup, atI_1]
@[simp] theorem ixD_En2 : ixD st e.d (.int 2) = some (.int e.i2) := by rw [En.d, ixD_tup, atI_2]
end
end DL
namespace DL
open PySem PySem.Spec PyProof.Rows L2
mutual
/-- None, numbers, texts, tuples of these, n deep at most -/
def tpl : Nat → D → Bool
  | _, .non => true
  | _, .int _ => true
  | _, .str _ => true
  | n, .tup ds => n != 0 && tplL (n - 1) ds
  | _, .bl _ => false
  | _, .kt _ => false
  | _, .lst _ => false
  | _, .kl _ => false
  | _, .ref _ => false
  | _, .ty _ => false
  | _, .exc _ => false
  | _, .cls _ => false
def tplL : Nat → List D → Bool
  | _, [] => true
  | n, d :: ds => tpl n d && tplL n ds
end
@[simp] theorem tpl_non {n : Nat} : tpl n .non = true := by unfold tpl; rfl
@[simp] theorem tpl_int {n : Nat} {i : Int} : tpl n (.int i) = true := by unfold tpl; rfl
@[simp] theorem tpl_str {n : Nat} {x : Str} : tpl n (.str x) = true := by unfold tpl; rfl
@[simp] theorem tpl_tup {n : Nat} {ds : List D} : tpl n (.tup ds) = (n != 0 && tplL (n - 1) ds) := by rw [tpl]
@[simp] theorem tplL_nil {n : Nat} : tplL n [] = true := by unfold tplL; rfl
@[simp] theorem tplL_cons {n : Nat} {d : D} {ds : List D} : tplL n (d :: ds) = (tpl n d && tplL n ds) := by rw [tplL]
abbrev Wd := Option (Int × Int × Int)
def wdA (name : Str) (f : Wd) : En → Wd
  | .word n h k u => if n = name then some (h, k, u) else f
  | _ => f
def wdB (name : Str) (f : Wd) : En → Wd
  | .free n h k => match f with
    | some (h', k', _) => if n = name ∧ h = h' ∧ k = k' then none else f
    | none => none
  | _ => f
def wdStep (name : Str) (f : Wd) (e : En) : Wd := wdB name (wdA name f e) e
def wordIn (es : List En) (name : Str) : Wd := es.foldl (wdStep name) none
end DL
namespace DL
open PySem PySem.Spec PyProof.Rows L2
def entsOf (es : List En) (kind : String) (name : Str) : List En := es.filter fun e => decide (e.kind = kind) && decide (e.name = name)
section
variable {st : Sto} {X : PoX} {Q : PoE} {name : Str} {kind : String} {es : List En}
def askedNums (es : List En) (name : Str) : List Int := (entsOf es "ask" name).map En.i2
def greatest (es : List En) (name : Str) : Int := maxL 0 (askedNums es name)
end
def encK {α : Type} (f : α → D) (kvs : List (Int × α)) : List (L2.Key × D) := kvs.map fun q => ((Sum.inl q.1 : L2.Key), f q.2)
def getI {α : Type} (kvs : List (Int × α)) (k : Int) : Option α := (kvs.find? fun q => decide (q.1 = k)).map (·.2)
def putI {α : Type} (kvs : List (Int × α)) (k : Int) (v : α) : List (Int × α) := if kvs.any (fun q => decide (q.1 = k)) then kvs.map (fun q => if q.1 = k then (q.1, v) else q) else kvs ++ [(k, v)]
section
variable {α : Type} {kvs : List (Int × α)} {k j : Int} {v : α}
theorem getI_none_iff : getI kvs k = none ↔ k ∉ kvs.map (·.1) := by
  unfold getI
  rw [Option.map_eq_none_iff, List.find?_eq_none]
  constructor
  · intro h hm
    obtain ⟨q, hq, e⟩ := List.mem_map.mp hm
    exact h q hq (by simpa using e)
  · intro h q hq e
    exact h (List.mem_map.mpr ⟨q, hq, by simpa using e⟩)
end
end DL
namespace DL
open PySem PySem.Spec PyProof.Rows L2
def En.i3 : En → Int
  | .got _ _ h _ => h | .no _ _ h => h | .word _ _ k _ => k | .free _ _ k => k | .ask .. => 0 | .back .. => 0
def En.i4 : En → Int
  | .ask _ _ _ u => u | .got _ _ _ u => u | .word _ _ _ u => u | _ => 0
def En.per : En → Str
  | .ask _ _ p _ => p | _ => ""
theorem ents_kind {es : List En} {kind : String} {name : Str} {e : En} (h : e ∈ entsOf es kind name) : e ∈ es ∧ e.kind = kind ∧ e.name = name := by
  obtain ⟨h1, h2⟩ := List.mem_filter.mp h
  simp at h2
  exact ⟨h1, h2.1, h2.2⟩
abbrev ats (es : List En) (kind : String) (name : Str) (num : Int) : List En := (entsOf es kind name).filter fun e => decide (e.i2 = num)
def wStep (acc : List (Int × Int)) (e : En) : List (Int × Int) := putI acc e.i3 (if e.i4 > (getI acc e.i3).getD 0 then e.i4 else (getI acc e.i3).getD 0)
def wordsAt (es : List En) (name : Str) (num : Int) : List (Int × Int) := (ats es "got" name num).foldl wStep []
def noesAt (es : List En) (name : Str) (num : Int) : List (Int × Bool) := (ats es "no" name num).foldl (fun acc e => putI acc e.i3 true) []
structure Cl where
  num : Int
  per : Str
  til : Int
  words : List (Int × Int)
  others : List Int
  deriving DecidableEq
def Cl.d (c : Cl) : D := .tup [.int c.num, .str c.per, .int c.til, .tup (c.words.map pairD), .tup (c.others.map .int)]
def claimOf (es : List En) (name : Str) : Option Cl :=
  let num := greatest es name
  if num = 0 ∨ En.back name num ∈ es then none else
  some ⟨num, (((ats es "ask" name num).getLast?).map En.per).getD "", maxL 0 ((ats es "ask" name num).map En.i4), sortP (wordsAt es name num), (sortI ((noesAt es name num).map (·.1))).filter fun h => !decide (h ∈ (wordsAt es name num).map (·.1))⟩
end DL
namespace DL
open PySem PySem.Spec PyProof.Rows L2
def perAt (es : List En) (name : Str) (n : Int) : Str := (((ats es "ask" name n).getLast?).map En.per).getD ""
def tilAt (es : List En) (name : Str) (n : Int) : Int := maxL 0 ((ats es "ask" name n).map En.i4)
theorem ents_snoc {es : List En} {x : En} {kind : String} {name : Str} : entsOf (es ++ [x]) kind name = if x.kind = kind ∧ x.name = name then entsOf es kind name ++ [x] else entsOf es kind name := by
  unfold entsOf
  rw [List.filter_append]
  by_cases h : x.kind = kind ∧ x.name = name
  · rw [if_pos h]; simp [h]
  · rw [if_neg h]
    simp
    exact fun a b => h ⟨a, b⟩
theorem ats_snoc {es : List En} {x : En} {kind : String} {name : Str} {n : Int} : ats (es ++ [x]) kind name n = if x.kind = kind ∧ x.name = name ∧ x.i2 = n then ats es kind name n ++ [x] else ats es kind name n := by
  unfold ats
  rw [ents_snoc]
  by_cases h : x.kind = kind ∧ x.name = name
  · rw [if_pos h, List.filter_append]
    by_cases h2 : x.i2 = n
    · rw [if_pos ⟨h.1, h.2, h2⟩]; simp [h2]
    · rw [if_neg fun z => h2 z.2.2]; simp [h2]
  · rw [if_neg h, if_neg fun z => h ⟨z.1, z.2.1⟩]
theorem greatest_snoc {es : List En} {x : En} {name : Str} : greatest (es ++ [x]) name = if x.kind = "ask" ∧ x.name = name ∧ x.i2 > greatest es name then x.i2 else greatest es name := by
  unfold greatest askedNums
  rw [ents_snoc]
  by_cases h : x.kind = "ask" ∧ x.name = name
  · rw [if_pos h, List.map_append, List.map_cons, List.map_nil, maxL_snoc]
    simp [h]
  · rw [if_neg h, if_neg fun z => h ⟨z.1, z.2.1⟩]
theorem ats_above {es : List En} {name : Str} {n : Int} (h : n > greatest es name) : ats es "ask" name n = [] := List.filter_eq_nil_iff.mpr fun x hx => by
  have := (maxL_ge (askedNums es name) 0).2 x.i2 (List.mem_map.mpr ⟨x, hx, rfl⟩)
  have : x.i2 ≤ greatest es name := this
  simp; omega
def tilU (es : List En) (x : En) (name : Str) : Int := if x.kind = "ask" ∧ x.name = name ∧ x.i2 > greatest es name then 0 else tilAt es name (greatest es name)
theorem per_snoc {es : List En} {x : En} {name : Str} : perAt (es ++ [x]) name (greatest (es ++ [x]) name) = if x.kind = "ask" ∧ x.name = name ∧ x.i2 = greatest (es ++ [x]) name then x.per else perAt es name (greatest es name) := by
  unfold perAt
  rw [ats_snoc]
  by_cases h : x.kind = "ask" ∧ x.name = name ∧ x.i2 = greatest (es ++ [x]) name
  · rw [if_pos h, if_pos h]; simp
  · rw [if_neg h, if_neg h]
    rw [greatest_snoc] at h ⊢
    by_cases h2 : x.kind = "ask" ∧ x.name = name ∧ x.i2 > greatest es name
    · rw [if_pos h2] at h
      exact absurd ⟨h2.1, h2.2.1, rfl⟩ h
    · rw [if_neg h2]
theorem til_snoc {es : List En} {x : En} {name : Str} : tilAt (es ++ [x]) name (greatest (es ++ [x]) name) = if x.kind = "ask" ∧ x.name = name ∧ x.i2 = greatest (es ++ [x]) name then (if x.i4 > tilU es x name then x.i4 else tilU es x name) else tilU es x name := by
  unfold tilAt
  rw [ats_snoc]
  unfold tilU
  by_cases h : x.kind = "ask" ∧ x.name = name ∧ x.i2 = greatest (es ++ [x]) name
  · rw [if_pos h, if_pos h, List.map_append, List.map_cons, List.map_nil, maxL_snoc]
    rw [greatest_snoc] at h ⊢
    by_cases h2 : x.kind = "ask" ∧ x.name = name ∧ x.i2 > greatest es name
    · rw [if_pos h2, if_pos h2, ats_above h2.2.2]; rfl
    · rw [if_neg h2, if_neg h2]; rfl
  · rw [if_neg h, if_neg h]
    rw [greatest_snoc] at h ⊢
    by_cases h2 : x.kind = "ask" ∧ x.name = name ∧ x.i2 > greatest es name
    · rw [if_pos h2] at h
      exact absurd ⟨h2.1, h2.2.1, rfl⟩ h
    · rw [if_neg h2, if_neg h2]; rfl
section
variable {st : Sto} {X : PoX} {Q : PoE} {name : Str} {es : List En} {m : Int}
theorem words_snoc {x : En} {n : Int} : wordsAt (es ++ [x]) name n = if x.kind = "got" ∧ x.name = name ∧ x.i2 = n then wStep (wordsAt es name n) x else wordsAt es name n := by
  unfold wordsAt
  rw [ats_snoc]
  split
  · rw [List.foldl_append]; rfl
  · rfl
theorem noes_snoc {x : En} {n : Int} : noesAt (es ++ [x]) name n = if x.kind = "no" ∧ x.name = name ∧ x.i2 = n then putI (noesAt es name n) x.i3 true else noesAt es name n := by
  unfold noesAt
  rw [ats_snoc]
  split
  · rw [List.foldl_append]; rfl
  · rfl
end
end DL
namespace DL
open PySem PySem.Spec PyProof.Rows L2
inductive Le where
  | ask (s t : Int) (n : Str) (k : Int) (p : Str) (u : Int)
  | word (s t : Int) (n : Str) (k u : Int)
  | no (s t : Int) (n : Str) (k : Int)
  | back (s t : Int) (n : Str) (k : Int)
  | told (s t : Int) (n : Str) (k : Int) (p : Str) (u : Int)
  deriving DecidableEq
def Le.d : Le → D
  | .ask s t n k p u => .tup [.str "ask", .int s, .int t, .str n, .int k, .str p, .int u]
  | .word s t n k u => .tup [.str "word", .int s, .int t, .str n, .int k, .int u]
  | .no s t n k => .tup [.str "no", .int s, .int t, .str n, .int k]
  | .back s t n k => .tup [.str "back", .int s, .int t, .str n, .int k]
  | .told s t n k p u => .tup [.str "told", .int s, .int t, .str n, .int k, .str p, .int u]
/-- a notice: name, house, number, person, round -/
structure Nt where
  n : Str
  h : Int
  k : Int
  p : Str
  u : Int
  deriving DecidableEq
def Nt.d (z : Nt) : D := .tup [.str z.n, .int z.h, .int z.k, .str z.p, .int z.u]
def ntD : Option Nt → D
  | none => .non
  | some z => z.d
structure Tk where
  es : List En
  ls : List Le
  nt : Option Nt
  deriving DecidableEq
def Tk.d (t : Tk) : D := .tup [.tup (t.es.map En.d), .tup (t.ls.map Le.d), ntD t.nt]
def isDue (es : List En) (name : Str) (house number til now : Int) : Bool := match wordIn es name with
  | none => decide (til > now)
  | some (h, k, u) => if u ≤ now then decide (til > now) else decide (h = house ∧ k = number) && decide (u < til)
def reachIn (m : Int) (es : List En) (name : Str) : Int := match claimOf es name with
  | none => 0
  | some c => reachI (c.words.map (·.2)) m
def others (m house : Int) : List Int := (rangeI 0 m).filter fun x => !decide (x = house)
def newsOf (m house : Int) (es more : List En) (name : Str) (now : Int) : Option Nt × List Le :=
  if reachIn m (es ++ more) name ≤ now ∨ reachIn m (es ++ more) name ≤ reachIn m es name then (none, []) else
  match claimOf (es ++ more) name with
  | none => (none, [])
  | some c => (some ⟨name, house, c.num, c.per, now⟩, (others m house).map fun o => .told house o name c.num c.per now)
def askTaken (house : Int) (es : List En) (s : Int) (name : Str) (k u now : Int) : List En × List Le :=
  if u ≤ now then ([], []) else
  if isDue es name s k u now then ([.word name s k u], [.word house s name k u]) else
  match wordIn es name with
  | none => ([], [])
  | some (h', k', u') => if h' = s ∧ k' = k then ([], [.word house s name k u']) else ([], [.no house s name k])
def wordTaken (m house : Int) (es : List En) (s : Int) (name : Str) (k u now : Int) : Tk := match claimOf es name with
  | none => ⟨[], [.back house s name k], none⟩
  | some c => if c.num ≠ k then ⟨[], [.back house s name k], none⟩ else
    if (c.words.filter fun q => decide (q.1 = s ∧ q.2 ≥ u)) ≠ [] then ⟨[], [], none⟩ else
    ⟨[.got name k s u], (newsOf m house es [.got name k s u] name now).2, (newsOf m house es [.got name k s u] name now).1⟩
def noTaken (es : List En) (s : Int) (name : Str) (k : Int) : List En := match claimOf es name with
  | none => []
  | some c => if c.num ≠ k ∨ s ∈ c.others ∨ s ∈ c.words.map (·.1) then [] else [.no name k s]
def backTaken (es : List En) (s : Int) (name : Str) (k : Int) : List En := match wordIn es name with
  | none => []
  | some (h', k', _) => if h' = s ∧ k' = k then [.free name s k] else []
def taken (m house : Int) (es : List En) (l : Le) (now : Int) : Tk := match l with
  | .ask s _ n k _ u => ⟨(askTaken house es s n k u now).1, (askTaken house es s n k u now).2, none⟩
  | .word s _ n k u => wordTaken m house es s n k u now
  | .no s _ n k => ⟨noTaken es s n k, [], none⟩
  | .back s _ n k => ⟨backTaken es s n k, [], none⟩
  | .told s _ n k p u => ⟨[], [], some ⟨n, s, k, p, u⟩⟩
section
variable {st : Sto} {X : PoX} {Q : PoE} {name : Str} {es more : List En} {b m house now s k u : Int}
theorem ok_app (h1 : ∀ e ∈ es, e.ok b) (h2 : ∀ e ∈ more, e.ok b) : ∀ e ∈ es ++ more, e.ok b := fun e he => (List.mem_append.mp he).elim (h1 e) (h2 e)
/-- what a letter brings, as an entry -/
def Le.ok (b : Int) : Le → Prop
  | .word s _ n k u => (En.got n k s u).ok b
  | _ => True
end
end DL
namespace DL
open PySem PySem.Spec PyProof.Rows L2
section
variable {st : Sto} {x : Str} {xs : List Str}
theorem toPyL_strs : ∀ {ns : List Str}, toPyL (ns.map D.str) = some (ns.map PyData.str)
  | [] => by rw [List.map_nil, toPyL]; rfl
  | n :: ns => by rw [List.map_cons, toPyL, toPyL_strs, toPy]; rfl
theorem anyEq_str : anyEq st (xs.map D.str) (.str x) = some (decide (x ∈ xs)) := by
  unfold anyEq
  rw [toPyL_strs]
  show (if PyData.depth (.str x) ≤ 60 then some ((xs.map PyData.str).any fun z => PyData.eqv z (.str x)) else none) = _
  rw [if_pos (by unfold PyData.depth; omega)]
  congr 1
  rw [List.any_map, Bool.eq_iff_iff, decide_eq_true_iff]
  simp only [List.any_eq_true, Function.comp]
  constructor
  · rintro ⟨y, hy, e⟩
    rw [PyData.eqv] at e
    have : y = x := by simpa using e
    exact this ▸ hy
  · intro h
    exact ⟨x, h, by rw [PyData.eqv]; simp⟩
theorem dIn_strs_tup : dIn st (.str x) (.tup (xs.map D.str)) = some (.bl (decide (x ∈ xs))) := by
  show (anyEq st (xs.map D.str) (.str x)).map D.bl = _
  rw [anyEq_str]; rfl
@[simp] theorem dIn_str2 {a b : Str} : dIn st (.str x) (.tup [.str a, .str b]) = some (.bl (decide (x = a ∨ x = b))) := by
  have := dIn_strs_tup (st := st) (x := x) (xs := [a, b])
  simpa using this
@[simp] theorem dIn_str3 {a b c : Str} : dIn st (.str x) (.tup [.str a, .str b, .str c]) = some (.bl (decide (x = a ∨ x = b ∨ x = c))) := by
  have := dIn_strs_tup (st := st) (x := x) (xs := [a, b, c])
  simpa using this
@[simp] theorem dIn_str4 {a b c d : Str} : dIn st (.str x) (.tup [.str a, .str b, .str c, .str d]) = some (.bl (decide (x = a ∨ x = b ∨ x = c ∨ x = d))) := by
  have := dIn_strs_tup (st := st) (x := x) (xs := [a, b, c, d])
  simpa using this
end
end DL
namespace DL
open PySem PySem.Spec PyProof.Rows L2
def Le.kind : Le → String
  | .ask .. => "ask" | .word .. => "word" | .no .. => "no" | .back .. => "back" | .told .. => "told"
/-- a letter to a house, of another one -/
def Le.good (b house : Int) : Le → Prop
  | .ask s t n k p u => t = house ∧ 0 ≤ s ∧ s < b ∧ s ≠ house ∧ nameOk n = true ∧ 1 ≤ k ∧ nameOk p = true ∧ 1 ≤ u
  | .word s t n k u => t = house ∧ 0 ≤ s ∧ s < b ∧ s ≠ house ∧ nameOk n = true ∧ 1 ≤ k ∧ 1 ≤ u
  | .no s t n k => t = house ∧ 0 ≤ s ∧ s < b ∧ s ≠ house ∧ nameOk n = true ∧ 1 ≤ k
  | .back s t n k => t = house ∧ 0 ≤ s ∧ s < b ∧ s ≠ house ∧ nameOk n = true ∧ 1 ≤ k
  | .told s t n k p u => t = house ∧ 0 ≤ s ∧ s < b ∧ s ≠ house ∧ nameOk n = true ∧ 1 ≤ k ∧ nameOk p = true ∧ 1 ≤ u
theorem Le.good.ok {b house : Int} {l : Le} (h : l.good b house) : l.ok b := by
  cases l <;> first | trivial | (obtain ⟨_, h1, h2, _, h3, h4, h5⟩ := h; exact ⟨h3, h4, h1, h2, h5⟩)
end DL
namespace DL
open PySem PySem.Spec PyProof.Rows L2
def Le.n : Le → Str
  | .ask _ _ n _ _ _ => n | .word _ _ n _ _ => n | .no _ _ n _ => n | .back _ _ n _ => n | .told _ _ n _ _ _ => n
section
variable {m house now : Int} {es : List En} {l : Le} {name : Str}
theorem wordIn_snoc {e : En} : wordIn (es ++ [e]) name = wdStep name (wordIn es name) e := by
  unfold wordIn
  rw [List.foldl_append]; rfl
end
end DL
namespace DL
open PySem PySem.Spec PyProof.Rows L2
def tabAt (z : Str) : TabL → Option (List Str)
  | [] => none
  | (k, ys) :: r => if k = z then some ys else tabAt z r
def strOf : D → Option Str
  | .str z => some z
  | _ => none
@[simp] theorem strOf_str {z : Str} : strOf (.str z) = some z := id rfl
/-- is it a key of the table; is it none -/
def wInTab (tab : TabL) (m : WE) : WE := fun e st X Q => m e st X fun d st1 => on (strOf d) fun z => Q (.bl (tabAt z tab).isSome) st1
def wNinTab (tab : TabL) (m : WE) : WE := fun e st X Q => m e st X fun d st1 => on (strOf d) fun z => Q (.bl (!(tabAt z tab).isSome)) st1
/-- what the table has there -/
def wTabAt (tab : TabL) (m : WE) : WE := fun e st X Q => m e st X fun d st1 => on (strOf d) fun z => on (tabAt z tab) fun ys => Q (.kt (ys.map .str)) st1
section
variable {e : Env} {st : Sto} {X : PoX} {Q : PoE} {m : WE} {tab : TabL}
@[simp] theorem wInTab_ap : wInTab tab m e st X Q = m e st X fun d st1 => on (strOf d) fun z => Q (.bl (tabAt z tab).isSome) st1 := id rfl
@[simp] theorem wNinTab_ap : wNinTab tab m e st X Q = m e st X fun d st1 => on (strOf d) fun z => Q (.bl (!(tabAt z tab).isSome)) st1 := id rfl
@[simp] theorem wTabAt_ap : wTabAt tab m e st X Q = m e st X fun d st1 => on (strOf d) fun z => on (tabAt z tab) fun ys => Q (.kt (ys.map .str)) st1 := id rfl
end
end DL
namespace DL
open PySem PySem.Spec PyProof.Rows L2
def wListR (m : WA) : WE := fun e st X Q => m e st X fun ds st1 => on (match ds with | [d] => sqOf st1 d | _ => none) fun xs => ∀ p, st1 p = none → Q (.ref p) (st1.set p (.lst xs))
@[simp] theorem wListR_ap {m : WA} {e : Env} {st : Sto} {X : PoX} {Q : PoE} : wListR m e st X Q = m e st X fun ds st1 => on (match ds with | [d] => sqOf st1 d | _ => none) fun xs => ∀ p, st1 p = none → Q (.ref p) (st1.set p (.lst xs)) := id rfl
end DL
namespace DL
open PySem PySem.Spec PyProof.Rows L2
def F_is_whole : WF := wDef 1 1 true (wRet (wAnd (wCall cIsi (wCons (wVar 0) (wCons (wC (.ty "int")) wNil))) (wNot (wCall cIsi (wCons (wVar 0) (wCons (wC (.ty "bool")) wNil))))))
def F_is_name : WF := wDef 2 1 true (wSeq (wIfS (wTOr (wTNot (wTT (wCall cIsi (wCons (wVar 0) (wCons (wC (.ty "str")) wNil))))) (wTNot (wTB (wChain dLe dLe (wC (.int 1)) (wCall cLen (wCons (wVar 0) wNil)) (wC (.int 8)))))) (wRet (wC (.bl false))) wSkip) (wRet (wBin dEq (wComp (wiStr (wVar 0)) (.nm 1) (wTB (wBin dNotIn (wVar 1) (wC (.str "abcdefghijklmnopqrstuvwxyz")))) (wVar 1) [1]) (wLst wNil))))
def F_is_house : WF := wDef 2 2 true (wRet (wAnd (wFn F_is_whole (wCons (wVar 1) wNil)) (wChain dLe dLt (wC (.int 0)) (wVar 1) (wVar 0))))
section
variable {st : Sto} {X : PoX} {Q : PoE} {i j m : Int} {x : Str} {es : List En}
theorem cLen_str (h : x.length ≤ sizeLine) : cLen st [.str x] = some (.int x.length) := by
  show (lenD st (.str x)).map _ = _
  unfold lenD
  simp [h]
theorem letters_mem {c : Nat} (h0 : 97 ≤ c) (h1 : c ≤ 122) : c ∈ (Str.ofString "abcdefghijklmnopqrstuvwxyz").cps.toList := by
  have key : ((List.range 26).all fun i => decide ((97 + i) ∈ (Str.ofString "abcdefghijklmnopqrstuvwxyz").cps.toList)) = true := by decide +kernel
  have := List.all_eq_true.mp key (c - 97) (List.mem_range.mpr (by omega))
  have e : 97 + (c - 97) = c := by omega
  rw [e] at this
  exact of_decide_eq_true this
end
end DL
namespace DL
open PySem PySem.Spec PyProof.Rows L2
abbrev own (es : List En) (name : Str) : List En := es.filter fun e => decide (e.name = name)
end DL
namespace DL
open PySem PySem.Spec PyProof.Rows L2
def wTupK (m : WA) : WE := fun e st X Q => m e st X fun ds st1 => on (match ds with | [d] => lsOf st1 d | _ => none) fun xs => Q (.kt xs) st1
@[simp] theorem wTupK_ap {m : WA} {e : Env} {st : Sto} {X : PoX} {Q : PoE} : wTupK m e st X Q = m e st X fun ds st1 => on (match ds with | [d] => lsOf st1 d | _ => none) fun xs => Q (.kt xs) st1 := id rfl
def wDictPT (m : WA) : WE := fun e st X Q => m e st X fun ds st1 => on (match ds with | [.kt es] => pairsL es | _ => none) fun kvs => ∀ p, st1 p = none → Q (.ref p) (st1.set p (.dk (mergeD [] kvs)))
@[simp] theorem wDictPT_ap {m : WA} {e : Env} {st : Sto} {X : PoX} {Q : PoE} : wDictPT m e st X Q = m e st X fun ds st1 => on (match ds with | [.kt es] => pairsL es | _ => none) fun kvs => ∀ p, st1 p = none → Q (.ref p) (st1.set p (.dk (mergeD [] kvs))) := id rfl
end DL
namespace DL
open PySem PySem.Spec PyProof.Rows L2
def Cl.dK (c : Cl) : D := .tup [.int c.num, .str c.per, .int c.til, .kt (c.words.map DL.pairD), .tup (c.others.map .int)]
section
variable {st : Sto} {X : PoX} {Q : PoE} {n m b house now s k u : Int} {es : List En} {name per : Str}
theorem putI_new {kvs : List (Int × Int)} {k v : Int} (h : k ∉ kvs.map (·.1)) : putI kvs k v = kvs ++ [(k, v)] := by
  unfold putI
  rw [if_neg]
  intro z
  obtain ⟨q, hq, e⟩ := List.any_eq_true.mp z
  exact h (List.mem_map.mpr ⟨q, hq, by simpa using e⟩)
end
end DL
namespace DL
open PySem PySem.Spec PyProof.Rows L2
def pairUp : List V → List (V × V)
  | x :: y :: r => (x, y) :: pairUp r
  | _ => []
def pairUpD : List D → Option (List (L2.Key × D))
  | [] => some []
  | k :: v :: r => (keyOf k).bind fun k => (pairUpD r).map ((k, v) :: ·)
  | _ => none
theorem pairUp_rep {K : PySem.W.Frag} {H : Hp} {M : Mu} : ∀ {ds : List D} {vs : List V} {kvs : List (L2.Key × D)}, pairUpD ds = some kvs → RepL K H M ds vs →
    ∃ ws : List (L2.Key × V), pairUp vs = ws.map (fun kv => (kV kv.1, kv.2)) ∧ ws.map (·.1) = kvs.map (·.1) ∧ RepL K H M (kvs.map (·.2)) (ws.map (·.2))
  | [], _, _, h, .nil => by cases h; exact ⟨[], rfl, rfl, .nil⟩
  | [_], _, _, h, _ => by cases h
  | k :: v :: r, _, kvs, h, .cons r1 (.cons r2 t) => by
    unfold pairUpD at h
    obtain ⟨key, h1, h2⟩ := Option.bind_eq_some_iff.mp h
    obtain ⟨kvs', h3, rfl⟩ := Option.map_eq_some_iff.mp h2
    obtain ⟨ws, h5, h6, h7⟩ := pairUp_rep h3 t
    have := key_of_ r1 h1
    subst this
    exact ⟨(key, _) :: ws, by rw [List.map_cons, ← h5]; rfl, by rw [List.map_cons, List.map_cons, h6], .cons r2 h7⟩
def wDisp (m : WA) : WE := fun e st X Q => ∀ p, st p = none → m e (st.set p (.dk [])) X fun ds st1 => st1 p = some (.dk []) ∧ on (pairUpD ds) fun kvs => kvs.length ≤ 15 ∧ Q (.ref p) (st1.set p (.dk (mergeD [] kvs)))
@[simp] theorem wDisp_ap {m : WA} {e : Env} {st : Sto} {X : PoX} {Q : PoE} : wDisp m e st X Q = ∀ p, st p = none → m e (st.set p (.dk [])) X fun ds st1 => st1 p = some (.dk []) ∧ on (pairUpD ds) fun kvs => kvs.length ≤ 15 ∧ Q (.ref p) (st1.set p (.dk (mergeD [] kvs))) := id rfl
def tPn (K : PySem.W.Frag) (mg : Str → Option Value) (E : XK) (m : WA) (σ : L2.St) (H : Hp) (Q : List (V × V) → Hp → Prop) : Prop := ∃ B e st Qd Xd, Sit K B e st σ H ∧
  (∀ ds st' vs H', Qd ds st' → Ext H (mu st B) H' (mu st' B) → StoOk K H' B st' → RepL K H' (mu st' B) ds vs → Q (pairUp vs) H') ∧ PostX K mg B H st Xd E ∧ m e st Xd Qd
def PPw (X : Cx) (E : XK) (pos : Pos) (keys : List (Option Expr)) (values : List Expr) (m : WA) : Prop := ∃ trs, PPs X pos keys values trs ∧ ∀ σ H Q, tPn X.K X.mg E m σ H Q → tPairs trs σ H Q
section
variable {X : Cx} {E : XK} {pos p apos cpos : Pos} {k v o : Expr} {mk mv mo : WE} {r : WA} {ks : List (Option Expr)} {vs : List Expr}
theorem pp_nil : PPw X E pos [] [] wNil := ⟨[], pps_nil, fun σ H Q ⟨B, e, st, Qd, Xd, S, pq, px, m⟩ => pq [] st [] H m .refl S.sto .nil⟩
theorem pp_cons (hk : PEw X E k mk) (hv : PEw X E v mv) (hr : PPw X E pos ks vs r) : PPw X E pos (some k :: ks) (v :: vs) (wCons mk (wCons mv r)) := by
  obtain ⟨trs, h1, h2⟩ := hr
  exact ⟨_, pps_cons hk hv h1, fun σ H Q ⟨B, e, st, Qd, Xd, S, pq, px, m⟩ => ⟨B, e, st, _, Xd, S, fun x st1 vx H1 m1 x1 k1 r1 => ⟨B, e, st1, _, Xd, S.on x1 k1, fun y st2 vy H2 m2 x2 k2 r2 =>
    h2 _ _ _ ⟨B, e, st2, _, Xd, (S.on x1 k1).on x2 k2, fun ds st3 us H3 m3 x3 k3 r3 => pq (x :: y :: ds) st3 (vx :: vy :: us) H3 m3 ((x1.trans x2).trans x3) k3 (.cons (r1.ext (x2.trans x3)) (.cons (r2.ext x3) r3)), (px.on x1).on x2, m2⟩, px.on x1, m1⟩, px, m⟩⟩
theorem e_disp (h : PPw X E pos ks vs r) (hall : ks.all (·.isSome) = true := by rfl) (hl : ks.length = vs.length := by rfl) (h0 : ks ≠ [] := by exact fun z => nomatch z) (h15 : ks.length ≤ 15 := by decide) : PEw X E (.Dict ks vs pos) (wDisp r) := by
  obtain ⟨trs, h1, h2⟩ := h
  refine pe_imp (pe_disp h1 hall hl h0 h15) fun σ H Q ⟨B, e, st, Qd, Xd, S, pq, px, m⟩ p hp => ?_
  obtain ⟨k2, x2⟩ := S.sto.put (c := .dk []) (o := .dK []) hp ⟨rfl, .nil⟩
  refine h2 _ _ _ ⟨B, e, st.set p (.dk []), _, Xd, S.on x2 k2, fun ds st1 us H1 m1 x1 k1 r1 => ?_, px.on x2, m p (S.sto.none_ hp)⟩
  obtain ⟨c1, c2⟩ := m1
  obtain ⟨kvs, hk, hz, q⟩ := on_iff.mp c2
  obtain ⟨oo, e1, rr⟩ := k1.at_ _ _ c1
  cases oo <;> try exact rr.elim
  rename_i ws0
  have : ws0 = [] := by
    have := congrArg List.length rr.1
    simpa using this
  subst this
  obtain ⟨ws, h5, h6, h7⟩ := pairUp_rep hk r1
  refine ⟨e1, ws, h5, ?_, ?_⟩
  · have := congrArg List.length h6
    simp only [List.length_map] at this
    omega
  obtain ⟨g1, g2⟩ := mergeD_rep (kvs := []) (ws := []) h6 h7 rfl .nil
  obtain ⟨k3, x3⟩ := k1.write (c := .dk (mergeD [] kvs)) (o := .dK (mergeK [] ws)) c1 ⟨g1, g2⟩
  exact pq _ _ _ _ q ((x2.trans x1).trans x3) k3 (.ref p)
def valsOf (st : Sto) (d : D) : Option (List D) := match d with
  | .ref a => (cellKV (st a)).map fun kvs => kvs.map (·.2)
  | _ => none
def wListVals (m : WE) : WE := fun e st X Q => m e st X fun d st1 => on (valsOf st1 d) fun ds => ds.length ≤ sizeLine ∧ Q (.lst ds) st1
@[simp] theorem wListVals_ap {m : WE} {e : Env} {st : Sto} {X : PoX} {Q : PoE} : wListVals m e st X Q = m e st X fun d st1 => on (valsOf st1 d) fun ds => ds.length ≤ sizeLine ∧ Q (.lst ds) st1 := id rfl
end
end DL
namespace DL
open PySem PySem.Spec PyProof.Rows L2
theorem eo_ok {P : Program} {w : World} {H : Hp} {h : Heap} {a : Addr} {cls : Value} {oe : Obj} {vs : Array Value} (e : h.get? a = some oe) (z : Zc cls none oe) (d : oe.data = .fields vs) : ObjOk P w H h a (EO cls a) :=
  ⟨⟨oe, vs, e, z, d⟩, ⟨oe, e⟩, fun h1 h2 ⟨o, ws, e1, z1, d1⟩ k => ⟨o, ws, k o e1, z1, d1⟩⟩
section
variable {X : Cx} {pins : List (Addr × Obj)} {σ : L2.St} {H : Hp} {sI s' : Shared} {B : Heap}
theorem landedE {a : Addr} {o : HO} (I : Inv X pins σ H sI) (nb : ∀ b o, sI.heap.get? b = some o → b ∉ frs X.stack → B.get? b = some o) (st : B.StaysIn s'.heap) (up : sI.heap.UpToSlots s'.heap) (os : s'.os = sI.os) (ag : AllBare s'.gens)
    (hn : sI.heap.get? a = none) (na : H a = none) (new : ObjOk X.prog X.w (upd H a o) s'.heap a o) : Inv X pins σ (upd H a o) s' := by
  have at_ : ∀ b u, sI.heap.get? b = some u → upd H a o b = H b := fun b u e => upd_ne fun z => by rw [z, hn] at e; cases e
  have nf : ∀ b ∈ frs X.stack, ∀ u, sI.heap.get? b = some u → ∃ sl, s'.heap.get? b = some { u with slots := sl } := fun b hb u e => by
    obtain ⟨_, u', e', hd⟩ := I.stack.mem hb
    rw [e] at e'
    cases e'
    exact up b u e hd
  have J := I.call (ch := []) (h' := s'.heap) (g' := s'.gens) (t' := s'.toks) (d' := s'.drawn) (H' := upd H a o)
    { keep := fun b u e _ hb _ => st b u (nb b u e hb)
      slot := fun b u e _ hb _ => nf b hb u e
      free := fun b u e n _ => (at_ b u e).trans n
      there := fun b u e _ => by
        by_cases hb : b ∈ frs X.stack
        · obtain ⟨sl, q⟩ := nf b hb u e
          exact ⟨_, q⟩
        · exact ⟨u, st b u (nb b u e hb)⟩
      tups := fun b xs q => (upd_ne (ne_of_none q na)).trans q
      frzs := fun b u v q => (upd_ne (ne_of_none q na)).trans q
      tbls := fun b ps q => ⟨#[], by rw [upd_ne (ne_of_none q na), q]; simp⟩ }
    (HOk.laidN ((I.inGround nb).kept st) (fun _ _ e => e) na new) ag (fun _ z => nomatch z)
  obtain ⟨a1, a2, a3, a4, a5⟩ := s'
  have e5 : a5 = sI.os := os
  subst e5
  exact J
theorem toSuite (I : Inv X pins σ H s') (a : Addr) : Inv (X.suite a (X.pn ++ pins)) [] σ H s' :=
  ⟨I.ok.suite _ _, I.os, I.bare, I.base, I.loc, I.cell, I.free, I.freeC, fun p hp => I.pin p (by rw [List.append_nil] at hp; exact hp), I.hok, I.len⟩
theorem ofSuite {a : Addr} (I : Inv (X.suite a (X.pn ++ pins)) [] σ H s') (ok : X.Ok) : Inv X pins σ H s' :=
  ⟨ok, I.os, I.bare, I.base, I.loc, I.cell, I.free, I.freeC, fun p hp => I.pin p (List.mem_append_left _ hp), I.hok, I.len⟩
end
/-- the slot of the clause's name is empty again -/
def backN (i : Nat) (D : Ends) : Ends := { nx := fun σ H => D.nx (σ.set i none) H, rt := D.rt, bk := fun σ H => D.bk (σ.set i none) H, ct := fun σ H => D.ct (σ.set i none) H }
def wLay (K : PySem.W.Frag) (c : Value) (i : Nat) (ts : Value → TS) (Wout : WX) (D : Ends) : WX := fun cls d σ H =>
  d = none ∧ ∃ b, PySem.W.exmOne K cls c = some b ∧ (b = true → ∀ a, H a = none → ts cls (backN i D) (σ.set i (some (.ref a))) (upd H a (EO cls a))) ∧ (b = false → Wout cls d σ H)
section
variable {X : Cx} {x n : Str} {c : Value} {i : Nat} {body suite : List Stmt} {b₀ : Stmt} {np pos pos' : Pos} {tb : WX → TS} {ts : Value → TS} {Wout : WX}
theorem try_lay (hs : X.stack = X.env :: X.outer) (hf : X.env.frame = some X.env.locals) (hN : X.N.Nodup) (hi : X.N[i]? = some n) (hln : X.env.kindOf n = some .local) (hc : Names X x c) (tk : Takes X Wout)
    (hb : ∀ (W : WX) (pn : List (Addr × Obj)) (xe : Value → Shared → Prop), Takes (X.tr pn xe) W → PassesOwn (model X.prog X.w) X.A X.env xe → PSs (X.tr pn xe) body (tb W))
    (hsu : ∀ (a : Addr) (cls : Value) (pn : List (Addr × Obj)), PSs (X.suite a pn) (b₀ :: suite) (ts cls)) :
    PS X (.Try body [.ExceptHandler (some (.Name x np)) (some n) (b₀ :: suite) pos'] [] [] pos) (fun D σ H => tb (wLay X.K c i ts Wout D) D σ H) := by
  refine ⟨fun pins s σ H D I h => ?_⟩
  have ok := I.ok
  have hfr : X.A.frames = some (X.env :: X.outer) := ok.frames.trans (congrArg some hs)
  have hloc : Loc X.env.scope n := .inl hln
  refine wpAny_Try_except ?_
  refine wpAny_mono ((hb (wLay X.K c i ts Wout D) (X.pn ++ pins) _ (fun u s' xx => ?_) PassesOwn.looking).run [] s σ H D (I.toTry _) h) (fun f s1 hsp => ?_) (fun e s1 he => he)
  · obtain ⟨a, B, sI, pins', σ', H', cls, d, rfl, J', nb, up, sky, na, os, ag, rfl, b, hb1, hyes, hno⟩ := xx
    have J : Inv X pins σ' H' sI := J'.ofTry ok
    have sky' : Sky B (X.env :: X.outer) a (Zc cls none) X.env.locals s'.heap := hs ▸ sky
    refine Sky.land Zc.steady hfr hf sky' fun h3 fl3 up3 => ?_
    obtain ⟨oe3, vs3, he3, hz3, hd3⟩ := fl3.there
    have nfr : a ∉ frs (X.env :: X.outer) := fun hm => by
      obtain ⟨_, o', e', hnf⟩ := fl3.2.2.1.mem hm
      rw [he3] at e'
      cases e'
      exact hnf _ hd3
    have noI : sI.heap.get? a = none := by
      cases q : sI.heap.get? a with
      | none => rfl
      | some o =>
        have z := nb a o q (by rw [show X.stack = X.env :: X.outer from hs]; exact nfr)
        rw [fl3.2.1] at z
        cases z
    have J3 : Inv X pins σ' H' { s' with heap := h3 } := J.landed nb fl3.1 (up.trans up3) os ag
    have S3 := toSuite J3 a
    refine wpAny_handleBy_cons (codeAny_handlers_test ?_) (by intro q; cases q)
    have LT : PySem.W.Looks (model X.prog X.w) h3 (typeOf (.ref a)) cls := fun A Q E s k q => wpAny_typeOf_ref (k _ _ he3) (by rw [hz3.1]; exact q)
    have LM := PySem.W.exm_one (M := model X.prog X.w) (J3.kIn) LT hb1
    have test : ∀ {Q : Value → Shared → Prop} {E : Value → Shared → Prop}, Q c { s' with heap := h3 } → wpAny (model X.prog X.w) (X.A.mark (some (.ref a))) (eval (.Name x np) X.env) Q E { s' with heap := h3 } := fun {Q E} q => by
      obtain ⟨hg, hdbg, hm | ⟨hm, hv, hnn⟩⟩ := hc
      · exact ld_glob (X := X.suite a (X.pn ++ pins)) S3 hg hm q hdbg
      · exact ld_blt (X := X.suite a (X.pn ++ pins)) S3 hg hm hv q hnn hdbg
    refine test (LM.here ?_)
    cases b with
    | true =>
      refine codeAny_handlers_suite_as ?_
      refine HandSPX.lands_againZ fl3 fun h4 fl4 up4 => ?_
      obtain ⟨oe4, vs4, he4, hz4, hd4⟩ := fl4.there
      have J4 : Inv X pins σ' (upd H' a (EO cls a)) { s' with heap := h4 } := landedE J nb fl4.1 ((up.trans up3).trans up4) os ag noI na (eo_ok he4 hz4 hd4)
      refine store_ok (X := X.suite a (X.pn ++ pins)) (v := .ref a) (toSuite J4 a) hN hi hloc rfl (fun s5 S5 => ?_) (.inr hln)
      refine wpAny_mono ((hsu a cls (X.pn ++ pins)).run [] s5 _ _ _ S5 (hyes rfl a na)) (fun f s6 hsp => ?_) (fun _ _ z => False.elim z)
      have fin : ∀ {σ6 : L2.St} {H6 : Hp} {Q : Shared → Prop}, Inv (X.suite a (X.pn ++ pins)) [] σ6 H6 s6 → (∀ s7, Inv X pins (σ6.set i none) H6 s7 → Q s7) →
          wpAny (model X.prog X.w) X.A (do bindName X.env n .none; unbindBehindTheSuite X.env n pos') (fun _ s7 => Q s7) X.xe s6 := fun {σ6 H6 Q} S6 hq => gone_ok (ofSuite S6 ok) hN hi hln hq
      cases f with
      | ret u =>
        obtain ⟨v6, σ6, H6, S6, r6, q6⟩ := hsp
        exact fin S6 fun s7 J7 => ⟨_, _, _, J7, r6, q6⟩
      | _ =>
        obtain ⟨σ6, H6, S6, q6⟩ := hsp
        exact fin S6 fun s7 J7 => ⟨_, _, J7, q6⟩
    | false =>
      refine wpAny_handleBy_nil ?_
      obtain ⟨_, _, _, oe, vs, T, oT, ts', he, hz, hd, h1, _⟩ := id fl3
      unfold PySem.passOn
      refine wpAny_bind (wpAny_field he hd h1 ?_)
      rw [if_neg (show ¬ ((Value.ref T == Value.none) = true) from by simp)]
      have fin : wpAny (model X.prog X.w) X.A (setFlight (.ref a) X.env.frame) (fun _ s4 => wpAny (model X.prog X.w) X.A (throw (.ref a) : Sem Flow) (SP X pins D) X.xe s4) X.xe { s' with heap := h3 } := by
        rw [hf]
        refine HandSPX.setFlight_upZ fl3 fun h4 hh4 up4 => wpAny_throw (tk _ _ ?_)
        exact ⟨a, B, sI, pins, σ', H', cls, none, rfl, J, nb, (up.trans up3).trans up4, .inr (.inr (by rw [hs]; exact hh4)), na, os, ag, hno rfl⟩
      first
        | exact wpAny_bind (wpAny_pure (wpAny_bind fin))
        | exact wpAny_bind fin
  · cases f with
    | next =>
      obtain ⟨σ', H', J', q⟩ := hsp
      exact wpAny_execs_nil ⟨σ', H', J'.ofTry ok, q⟩
    | ret u =>
      obtain ⟨v, σ', H', J', r, q⟩ := hsp
      exact ⟨v, σ', H', J'.ofTry ok, r, q⟩
    | _ =>
      obtain ⟨σ', H', J', q⟩ := hsp
      exact ⟨σ', H', J'.ofTry ok, q⟩
end
end DL
namespace DL
open PySem PySem.Spec PyProof.Rows L2
/-- is y a class below x? y one of the program's own -/
structure ExnK (K : PySem.W.Frag) (y : Str) : Prop where
  ex : PySem.W.excIn K (He.ga K y) He.veBase "ValueError.__new__" = true
  kp : PySem.W.keepIn K (.ref (He.ga K y)) = true
  bs : PySem.W.subIn K (.ref (He.ga K y)) (.type "BaseException") = some true
  ty : PySem.W.typeIn K (.ref (He.ga K y)) = some (.type "type")
  cc : ExcC K (He.ga K y)
  kv : PySem.W.kitOne K (.ref (He.ga K y)) (.type "ValueError") = some true
  kn : PySem.W.kitOne K (.type "NoneType") (.ref (He.ga K y)) = some false
structure ExnOk (K : PySem.W.Frag) (mg : Str → Option Value) (ys : List Str) : Prop where
  gl : ∀ y ∈ ys, mg y = some (.ref (He.ga K y))
  at_ : ∀ y ∈ ys, ExnK K y
  ki : ∀ y ∈ ys, ∀ x ∈ ys, PySem.W.kitOne K (.ref (He.ga K y)) (.ref (He.ga K x)) = some (subE y x)
  em : ∀ y ∈ ys, ∀ x ∈ ys, PySem.W.exmOne K (.ref (He.ga K y)) (.ref (He.ga K x)) = some (subE y x)
theorem exn1_ok {K : PySem.W.Frag} {y : Str} (h : exn1 K y = true) : ExnK K y := by
  unfold exn1 at h
  simp only [Bool.and_eq_true, decide_eq_true_eq] at h
  obtain ⟨h1, h2, h3, h4, h5, h6, h7, h8, h9, h10, h11, h12, h13⟩ := h
  exact ⟨h1, h2, h3, h4, ⟨h5, h6, h3, h7, h8, h9, h10, h11⟩, h12, h13⟩
theorem exnB_ok {K : PySem.W.Frag} {h : Heap} {mg : Str → Option Value} {ys : List Str} (X : K.In h) (G : h.Ns mainGlobals mg) (hb : exnB ys K = true) : ExnOk K mg ys := by
  have at_ := fun y hy => Bool.and_eq_true_iff.mp (List.all_eq_true.mp hb y hy)
  have two := fun y hy x hx => Bool.and_eq_true_iff.mp (List.all_eq_true.mp (Bool.and_eq_true_iff.mp (at_ y hy).2).2 x hx)
  exact ⟨fun y hy => He.glo_ok X G (at_ y hy).1, fun y hy => exn1_ok (Bool.and_eq_true_iff.mp (at_ y hy).2).1, fun y hy x hx => of_decide_eq_true (two y hy x hx).1, fun y hy x hx => of_decide_eq_true (two y hy x hx).2⟩
def wRaise (x : Str) : WS := fun W _ st => W.ex x st
section
variable {X : Cx} {E : XK} {ys : List Str}
theorem s_raise {x m : Str} {j : Nat} {p p2 pos pos2 : Pos} (hE : ExnOk X.K X.mg ys) (ht : Takes X (fun c d _ H => E c d H)) (hc : X.calm = true) (hy : x ∈ ys := by decide) (hg : Gl X x := by rfl) (hd : (x == ("__debug__" : Str)) = false := by decide) :
    PSw X E (.Raise (some (.Call (.Name x p) [.Constant (.str m) j p2] [] pos)) none pos2) (wRaise x) :=
  ps_imp (ps_raise hc ht (pmk_own PySem.F.excBase_ValueError (hE.at_ x hy).ex (hE.gl x hy) (hE.at_ x hy).kp (raises_own (hE.at_ x hy).bs (hE.at_ x hy).ty) hg hd)) fun D σ H ⟨B, e, st, W, S, k, mm⟩ =>
    k.ex x st _ H mm (hE.gl x hy) .refl S.sto
/-- a body of a try -/
def PTry (X : Cx) (body : List Stmt) (b : WS) : Prop := ∀ (W : WX) (pn : List (Addr × Obj)) (xe : Value → Shared → Prop), Takes (X.tr pn xe) W → PSs (X.tr pn xe) body fun D σ H => tS X.K X.mg (L2.WE W σ) b D σ H
/-- f(e, ..) in a try: the arguments let nothing out -/
def wFnT (F : WF) (m : WA) : WE := fun e st X Q => m e st XF fun ds st1 => F ds st1 X Q
theorem y_set (i : Nat) {x y : Str} {py p pos spos : Pos} {a : Expr} {es : List Expr} {n k j : Nat} {F : WF} {m : WA} (hN : X.N.Nodup) (G : Good X.prog X.w X.K X.mg X.base k x n F) (hr : Room j X.A) (ha : ∀ pn xe, PAw (X.tr pn xe) E0 (a :: es) n m)
    (hk : k ≤ j := by first | decide | exact Nat.le_refl _ | exact Nat.le_add_right_of_le (by decide)) (hg : Gl X x := by rfl) (hdb : (x == ("__debug__" : Str)) = false := by decide) (he : starEach (a :: es) X.env = (false, eval a X.env) :: starEach es X.env := by rfl) (hpl : (backTo pos (starEach es X.env)).any (·.1) = false := by rfl)
    (hi : X.N[i]? = some y := by rfl) (hx : Loc X.env.scope y := by first | exact Or.inl rfl | exact Or.inr rfl) (hs : swapsWith (.Call (.Name x p) (a :: es) [] pos) (some (.Name y py)) spos.line X.env = pure false := by rfl)
    (hf : X.fn y = true ∨ X.env.scope.names.lookup y = some .local := by first | exact .inl rfl | exact .inr rfl | assumption) : PTry X [.Assign [.Name y py] (.Call (.Name x p) (a :: es) [] pos) spos] (wSet i (wFnT F m)) := by
  obtain ⟨f, fd, ps, hm, hkp, hb, H⟩ := G
  intro W pn xe tk
  refine pss_imp (pss_one (ps_set (X := X.tr pn xe) hN hi hx (pe_callS (X := X.tr pn xe) (E := L2.WE W) H (hr.mono hk) hg hm hkp hb (fun σ => passAt tk σ) (ha pn xe) hdb he hpl) hs hf)) fun D σ H ⟨B, e, st, Wn, S, k, mm⟩ => ?_
  exact ⟨B, e, st, _, XF, S, fun ds st1 vs H1 m1 l1 x1 k1 r1 => ⟨B, ds, st1, _, _, by rw [r1.length, l1], k1, r1, fun d st2 v H2 n x2 k2 r2 => k.nx _ st2 _ H2 n ⟨(S.env.ext (x1.trans x2)).set i r2, k2⟩ (x1.trans x2), k.ex.on x1, m1⟩, noX, mm⟩
theorem EnvOk.clear {K : PySem.W.Frag} {H : Hp} {M : Mu} {e : DL.Env} {σ : L2.St} (h : EnvOk K H M e σ) (i : Nat) : EnvOk K H M (e.set i none) (σ.set i none) :=
  ⟨by rw [List.length_set, List.length_set, h.len], fun j d q => by
    by_cases z : j = i
    · subst z
      by_cases l : j < e.length
      · rw [List.getElem?_set_self l] at q
        cases q
      · rw [List.getElem?_eq_none (by simpa using l)] at q; cases q
    · rw [List.getElem?_set_ne (Ne.symm z)] at q
      rw [List.getElem?_set_ne (Ne.symm z)]
      exact h.at_ j d q⟩
/-- the suite's ends, its name's slot empty behind it -/
def atBack (i : Nat) (W : WEnds) : WEnds := { nx := fun e st => W.nx (e.set i none) st, rt := W.rt, ex := XF, bk := fun e st => W.bk (e.set i none) st, ct := fun e st => W.ct (e.set i none) st }
/-- try: b except cn as (slot i): m2; ys the classes of errors -/
def wTryAs (ys : List Str) (cn : Str) (i : Nat) (b m2 : WS) : WS := fun W e st =>
  b { W with ex := fun y st1 => y ∈ ys ∧ if subE y cn = true then m2 (atBack i W) (e.set i (some (.exc y))) st1 else W.ex y st1 } e st
theorem names_of {x : Str} (hE : ExnOk X.K X.mg ys) (hy : x ∈ ys) (hg : Gl X x) (hd : (x == ("__debug__" : Str)) = false) : Names X x (.ref (He.ga X.K x)) := ⟨hg, hd, .inl (hE.gl x hy)⟩
theorem s_tryAs (i : Nat) {cn n : Str} {body suite : List Stmt} {b₀ : Stmt} {np pos pos' : Pos} {b m2 : WS} (hN : X.N.Nodup) (hE : ExnOk X.K X.mg ys) (ht : Takes X (fun c d _ H => E c d H)) (hs : X.stack = X.env :: X.outer) (hf : X.env.frame = some X.env.locals)
    (hb : PTry X body b) (hsu : ∀ (a : Addr) (pn : List (Addr × Obj)), PBw (X.suite a pn) E0 (b₀ :: suite) m2)
    (hy : cn ∈ ys := by decide) (hg : Gl X cn := by rfl) (hd : (cn == ("__debug__" : Str)) = false := by decide) (hi : X.N[i]? = some n := by rfl) (hln : X.env.kindOf n = some .local := by rfl) :
    PSw X E (.Try body [.ExceptHandler (some (.Name cn np)) (some n) (b₀ :: suite) pos'] [] [] pos) (wTryAs ys cn i b m2) := by
  refine ps_imp (try_lay (ts := fun _ => tS X.K X.mg E0 m2) (tb := fun W D σ H => tS X.K X.mg (L2.WE W σ) b D σ H) (Wout := fun c d _ H => E c d H) hs hf hN hi hln (names_of hE hy hg hd) ht (fun W pn xe tk _ => hb W pn xe tk) fun a cls pn => hsu a pn) fun D σ H ⟨B, e, st, W, S, k, mm⟩ => ?_
  refine ⟨B, e, st, { W with ex := fun y st1 => y ∈ ys ∧ if subE y cn = true then m2 (atBack i W) (e.set i (some (.exc y))) st1 else W.ex y st1 }, S, ⟨k.nx, k.rt, fun y st1 c H1 m1 hm x1 k1 => ?_, k.bk, k.ct⟩, mm⟩
  obtain ⟨h1, h2⟩ := m1
  have hm2 := (hE.gl y h1).symm.trans hm
  cases hm2
  refine ⟨rfl, _, hE.em y h1 cn hy, fun hb1 a na => ?_, fun hb1 => ?_⟩
  · rw [if_pos hb1] at h2
    have k2 := k1.new (o := EO (.ref (He.ga X.K y)) a) na
    have x2 := ext_new (H := H1) (M := mu st1 B) (o := EO (.ref (He.ga X.K y)) a) na
    refine ⟨B, _, st1, _, ⟨((S.env.ext x1).ext x2).set i (.exc ⟨k1.fresh na, upd_same⟩), k2⟩, ⟨fun e' st' σ' H' n S' x => ?_, ?_, noX, fun e' st' σ' H' n S' x => ?_, fun e' st' σ' H' n S' x => ?_⟩, h2⟩
    · exact k.nx _ st' _ H' n ⟨S'.env.clear i, S'.sto⟩ ((x1.trans x2).trans x)
    · exact k.rt.on (x1.trans x2)
    · exact k.bk _ st' _ H' n ⟨S'.env.clear i, S'.sto⟩ ((x1.trans x2).trans x)
    · exact k.ct _ st' _ H' n ⟨S'.env.clear i, S'.sto⟩ ((x1.trans x2).trans x)
  · rw [if_neg (by rw [hb1]; exact Bool.false_ne_true)] at h2
    exact k.ex y st1 _ H1 h2 hm x1 k1
/-- except clauses without a name, one behind the other -/
def wHds (W : WEnds) (e : DL.Env) (y : Str) (st : Sto) : List (Str × WS) → Prop
  | [] => W.ex y st
  | (cn, m) :: r => if subE y cn = true then m { W with ex := XF } e st else wHds W e y st r
def wTryN (ys : List Str) (b : WS) (hs : List (Str × WS)) : WS := fun W e st => b { W with ex := fun y st1 => y ∈ ys ∧ wHds W e y st1 hs } e st
inductive PHds (X : Cx) (ys : List Str) : List ExceptHandler → List (Str × WS) → Prop
  | nil : PHds X ys [] []
  | cons {cn : Str} {m : WS} {b₀ : Stmt} {suite : List Stmt} {np pos' : Pos} {hds : List ExceptHandler} {l : List (Str × WS)} (hy : cn ∈ ys) (hg : Gl X cn) (hd : (cn == ("__debug__" : Str)) = false) (hsu : ∀ (a : Addr) (pn : List (Addr × Obj)), PBw (X.suite a pn) E0 (b₀ :: suite) m) (r : PHds X ys hds l) :
      PHds X ys (.ExceptHandler (some (.Name cn np)) none (b₀ :: suite) pos' :: hds) ((cn, m) :: l)
def tHds (K : PySem.W.Frag) (mg : Str → Option Value) (l : List (Str × WS)) : List (Value × (Addr → Value → Option Addr → TS)) := l.map fun q => (.ref (He.ga K q.1), fun _ _ _ => tS K mg E0 q.2)
theorem PHds.ok {hds : List ExceptHandler} {l : List (Str × WS)} (hE : ExnOk X.K X.mg ys) (h : PHds X ys hds l) : HdsOk X hds (tHds X.K X.mg l) := by
  induction h with
  | nil => exact .nil
  | cons hy hg hd hsu r ih => exact .cons (names_of hE hy hg hd) (fun a oe cls d pn hz hf => hsu a _) ih
theorem PHds.ins {hds : List ExceptHandler} {l : List (Str × WS)} (h : PHds X ys hds l) : ∀ q ∈ l, q.1 ∈ ys := by
  induction h with
  | nil => exact fun q hq => nomatch hq
  | cons hy _ _ _ _ ih => exact fun q hq => (List.mem_cons.mp hq).elim (fun z => z ▸ hy) (ih q)
end
def isE (ys : List Str) : D → D → Option Bool
  | .non, .cls x => if x ∈ ys then some false else none
  | .non, .ty n => if n = "ValueError" then some false else none
  | .exc y, .cls x => if y ∈ ys ∧ x ∈ ys then some (subE y x) else none
  | .exc y, .ty n => if y ∈ ys ∧ n = "ValueError" then some true else none
  | _, _ => none
def isEs (ys : List Str) (d : D) : List D → Option Bool
  | [] => some false
  | c :: r => match isE ys d c, isEs ys d r with
    | some b, some b' => some (b || b')
    | _, _ => none
def cIsX (ys : List Str) (_ : Sto) : List D → Option D
  | [d, .tup (c :: cs)] => (isEs ys d (c :: cs)).map .bl
  | [d, c] => (isE ys d c).map .bl
  | _ => none
def KX (K : PySem.W.Frag) (H : Hp) (x : V) (t : Value) : Prop := TyX K H x t ∨ ∃ (a C : Addr), x = .ref a ∧ H a = some (EO (.ref C) a) ∧ ExcC K C ∧ t = .ref C
def rIsX (K : PySem.W.Frag) : List V → Hp → VK → Prop := fun xs H Q => ∃ (x c : V) (t : Value) (b : Bool), xs = [x, c] ∧ KX K H x t ∧
  ((∃ u, ClsV c u ∧ PySem.W.kitOne K t u = some b) ∨ ∃ (tp : Addr) (cs : List V) (us : List Value), c = .ref tp ∧ H tp = some (.tup cs) ∧ Paired ClsV cs us ∧ PySem.W.kitAny K t us = some b) ∧ Q (.bl b) H
theorem kx_of {X : Cx} {pins : List (Addr × Obj)} {σ : L2.St} {H : Hp} {s : Shared} {x : V} {u t : Value} (I : Inv X pins σ H s) (rx : RelV x u) (ty : KX X.K H x t) : ∃ P : Heap → Prop, PySem.W.KitX X.K u t P ∧ P s.heap ∧ u ≠ .builtin "__main__.__loader__#opaque" := by
  rcases ty with ty | ⟨a, C, rfl, ha, hC, rfl⟩
  · exact kit_of I rx ty
  · cases (show u = Value.ref a from rx)
    obtain ⟨⟨oe, vs, hg, hz, hd⟩, _, _⟩ := (show ObjOk X.prog X.w H s.heap a (EO (.ref C) a) from I.hok a _ ha)
    refine ⟨_, PySem.W.handS_kitx_exc hC.hg hC.hk hC.hs hC.hd hC.ha hC.hn hC.ht hC.hm (x := a) (ox := oe), ?_, fun z => nomatch z⟩
    obtain ⟨oc, od, oda, osl⟩ := oe
    obtain ⟨h1, h2⟩ := hz
    dsimp only at h1 h2 hd
    subst h1 h2 hd
    exact ⟨hg, rfl, rfl, trivial⟩
theorem call_isX {X : Cx} : CallR X (.builtin "isinstance") (rIsX X.K) := by
  intro pins s σ H xs us Q I r h
  obtain ⟨x, c, t, b, rfl, ty, h1, q⟩ := h
  obtain ⟨u1, u2, rfl, r1, r2⟩ := vals2 r
  obtain ⟨P, Z, p, hx⟩ := kx_of I r1 ty
  rcases h1 with ⟨u, k, e⟩ | ⟨tp, cs, ws, rfl, hT, k, e⟩
  · have e2 := k.eq r2
    subst e2
    exact PySem.W.kia_one Z I.kIn p e hx fun tk => ⟨.bl b, H, I.tok tk, rfl, q⟩
  · cases (show u2 = Value.ref tp from r2)
    obtain ⟨_, its, rv, o, h1, h2, n, h3⟩ := (show ObjOk X.prog X.w H s.heap tp (.tup cs) from I.hok tp _ hT)
    have e3 := ClsV.all k rv
    subst e3
    obtain ⟨oc, od, dt, sl⟩ := o
    simp only at h2 h3
    subst h2 h3
    exact PySem.W.kia_tup Z I.kIn p h1 e hx fun tk => ⟨.bl b, H, I.tok tk, rfl, q⟩
section
variable {K : PySem.W.Frag} {mg : Str → Option Value} {ys : List Str} {H : Hp} {M : Mu}
/-- what d is, and each class asked of it -/
theorem isE_ok (hE : ExnOk K mg ys) {d : D} {x : V} (r : Rep K H M d x) {cs : List D} {vs : List V} (rc : RepL K H M cs vs) {b : Bool} (h : isEs ys d cs = some b) (hne : cs ≠ []) :
    ∃ (t : Value) (us : List Value), KX K H x t ∧ Paired ClsV vs us ∧ PySem.W.kitAny K t us = some b ∧ (∀ c u, vs = [c] → us = [u] → PySem.W.kitOne K t u = some b) := by
  have step : ∀ (t : Value) (P : D → Prop), (∀ {c : D} {v : V} {b1 : Bool}, isE ys d c = some b1 → Rep K H M c v → ∃ u, ClsV v u ∧ PySem.W.kitOne K t u = some b1) →
      ∀ {cs : List D} {vs : List V} {b : Bool}, RepL K H M cs vs → isEs ys d cs = some b → ∃ us, Paired ClsV vs us ∧ PySem.W.kitAny K t us = some b ∧ (∀ c u, vs = [c] → us = [u] → PySem.W.kitOne K t u = some b) := by
    intro t _ one cs
    induction cs with
    | nil =>
      intro vs b rc h
      cases rc
      cases h
      exact ⟨[], .nil, rfl, fun c u e => nomatch e⟩
    | cons c r ih =>
      intro vs b rc h
      cases rc with
      | cons r1 r2 =>
        unfold isEs at h
        cases e1 : isE ys d c with
        | none => rw [e1] at h; cases h
        | some b1 =>
          cases e2 : isEs ys d r with
          | none => rw [e1, e2] at h; cases h
          | some b2 =>
            rw [e1, e2] at h
            cases h
            obtain ⟨u, h1, h2⟩ := one e1 r1
            obtain ⟨us, h3, h4, _⟩ := ih r2 e2
            refine ⟨u :: us, .cons h1 h3, ?_, fun c' u' e3 e4 => ?_⟩
            · cases b1 with
              | true => exact kitAny_cons h2 (fun z => nomatch z) fun _ => rfl
              | false => exact kitAny_cons h2 (fun _ => by rw [h4]; rfl) fun z => nomatch z
            · cases e3
              cases e4
              cases h3
              cases r2
              cases e2
              rw [Bool.or_false]
              exact h2
  cases d with
  | non =>
    cases r
    obtain ⟨us, h1, h2, h3⟩ := step (.type "NoneType") (fun _ => True) (fun {c v b1} hc hv => by
      cases c with
      | cls z =>
        cases hv
        have hc' : (if z ∈ ys then some false else none) = some b1 := hc
        split at hc' <;> cases hc'
        exact ⟨_, .own _, (hE.at_ z (by assumption)).kn⟩
      | ty n =>
        cases hv
        have hc' : (if n = "ValueError" then some false else none) = some b1 := hc
        split at hc' <;> cases hc'
        rename_i hn
        subst hn
        exact ⟨_, .ty _, kit_ty (by decide +kernel)⟩
      | _ => cases hc) rc h
    exact ⟨_, us, .inl (.base .non), h1, h2, h3⟩
  | exc y =>
    cases r with
    | exc ha =>
      rename_i a
      by_cases hy : y ∈ ys
      · obtain ⟨us, h1, h2, h3⟩ := step (.ref (He.ga K y)) (fun _ => True) (fun {c v b1} hc hv => by
          cases c with
          | cls z =>
            cases hv
            have hc' : (if y ∈ ys ∧ z ∈ ys then some (subE y z) else none) = some b1 := hc
            split at hc' <;> cases hc'
            rename_i hq
            exact ⟨_, .own _, hE.ki y hq.1 z hq.2⟩
          | ty n =>
            cases hv
            have hc' : (if y ∈ ys ∧ n = "ValueError" then some true else none) = some b1 := hc
            split at hc' <;> cases hc'
            rename_i hq
            obtain ⟨_, hn⟩ := hq
            subst hn
            exact ⟨_, .ty _, (hE.at_ y hy).kv⟩
          | _ => cases hc) rc h
        exact ⟨_, us, .inr ⟨a, _, rfl, ha.2, (hE.at_ y hy).cc, rfl⟩, h1, h2, h3⟩
      · exfalso
        cases cs with
        | nil => exact hne rfl
        | cons c r =>
          unfold isEs at h
          have e1 : isE ys (.exc y) c = none := by
            cases c <;> first | rfl | exact if_neg fun z => hy z.1
          rw [e1] at h
          cases h
  | _ =>
    exfalso
    cases cs with
    | nil => exact hne rfl
    | cons c r =>
      unfold isEs at h
      cases c <;> cases h
theorem cIsX_ok (hE : ExnOk K mg ys) : CaOk K (rIsX K) (cIsX ys) := by
  intro B H st xs dxs d Q k r e g
  unfold cIsX at e
  split at e
  · rename_i x c0 cs
    obtain ⟨b, e1, rfl⟩ := Option.map_eq_some_iff.mp e
    cases r with
    | cons r1 r2 =>
      cases r2 with
      | cons r2 r3 =>
        cases r3
        cases r2 with
        | tup h r4 z =>
          obtain ⟨t, us, h1, h2, h3, _⟩ := isE_ok hE r1 r4 e1 (fun z => nomatch z)
          exact ⟨_, _, t, b, rfl, h1, .inr ⟨_, _, us, rfl, h.2, h2, h3⟩, g.here k (.bl _)⟩
  · rename_i x c _
    obtain ⟨b, e1, rfl⟩ := Option.map_eq_some_iff.mp e
    cases r with
    | cons r1 r2 =>
      cases r2 with
      | cons r2 r3 =>
        cases r3
        obtain ⟨t, us, h1, h2, _, h4⟩ := isE_ok hE r1 (.cons r2 .nil) (b := b) (by unfold isEs; rw [e1]; unfold isEs; cases b <;> rfl) (fun z => nomatch z)
        cases h2 with
        | cons c1 cn =>
          cases cn
          exact ⟨_, _, t, b, rfl, h1, .inl ⟨_, c1, h4 _ _ rfl rfl⟩, g.here k (.bl _)⟩
  · cases e
end
end DL
namespace DL
open PySem PySem.Spec PyProof.Rows L2
section
variable {X : Cx} {E : XK} {ys : List Str} {a b : Expr} {ma mb : WE} {pos p : Pos} {n : Nat} {m : WA}
theorem e_cls {x : Str} (hE : ExnOk X.K X.mg ys) (hy : x ∈ ys := by decide) (hg : Gl X x := by rfl) (hd : (x == ("__debug__" : Str)) = false := by decide) : PEw X E (.Name x pos) (wC (.cls x)) := e_c (pe_glob (v := .ref (He.ga X.K x)) hg (hE.gl x hy) rfl hd) fun _ _ => .cls x
theorem e_tval (fr : Frees X.mg) (hg : Gl X "ValueError" := by rfl) : PEw X E (.Name "ValueError" pos) (wC (.ty "ValueError")) := e_ty "ValueError" hg fr.ValueError (by decide +kernel)
theorem e_isx (fr : Frees X.mg) (hE : ExnOk X.K X.mg ys) (ha : PAw X E [a, b] n m) (hg : Gl X "isinstance" := by rfl) (he : starEach [a, b] X.env = (false, eval a X.env) :: starEach [b] X.env := by rfl) (hp : (backTo pos (starEach [b] X.env)).any (·.1) = false := by rfl) : PEw X E (.Call (.Name "isinstance" p) [a, b] [] pos) (wCall (cIsX ys) m) :=
  e_cb call_isX (cIsX_ok hE) hg fr.isinstance (by decide +kernel) ha (by decide) (by decide) he hp
end
/-- a, b = x, y with plain names: no tuple stays -/
def wPar (i j : Nat) (a b : WE) : WS := fun W e st => a e st W.ex fun u st1 => b e st1 W.ex fun v st2 => W.nx ((e.set i (some u)).set j (some v)) st2
section
variable {e : DL.Env} {st : Sto} {X : PoX} {Q : PoE} {W : WEnds} {ys : List Str} {x cn : Str} {i : Nat} {b m2 : WS} {F : WF} {m : WA} {hs : List (Str × WS)}
@[simp] theorem wPar_ap {j : Nat} {ma mb : WE} : wPar i j ma mb W e st = ma e st W.ex fun u st1 => mb e st1 W.ex fun v st2 => W.nx ((e.set i (some u)).set j (some v)) st2 := id rfl
@[simp] theorem wRaise_ap : wRaise x W e st = W.ex x st := id rfl
@[simp] theorem wFnT_ap : wFnT F m e st X Q = m e st XF fun ds st1 => F ds st1 X Q := id rfl
@[simp] theorem wTryAs_ap : wTryAs ys cn i b m2 W e st = b { W with ex := fun y st1 => y ∈ ys ∧ if subE y cn = true then m2 (atBack i W) (e.set i (some (.exc y))) st1 else W.ex y st1 } e st := id rfl
@[simp] theorem atBack_nx {e' : DL.Env} : (atBack i W).nx e' st = W.nx (e'.set i none) st := id rfl
@[simp] theorem atBack_rt {d : D} : (atBack i W).rt d st = W.rt d st := id rfl
@[simp] theorem wTryN_ap : wTryN ys b hs W e st = b { W with ex := fun y st1 => y ∈ ys ∧ wHds W e y st1 hs } e st := id rfl
@[simp] theorem wHds_nil {y : Str} : wHds W e y st [] = W.ex y st := id rfl
@[simp] theorem wHds_cons {y : Str} {r : List (Str × WS)} : wHds W e y st ((cn, m2) :: r) = if subE y cn = true then m2 { W with ex := XF } e st else wHds W e y st r := id rfl
@[simp] theorem isN_exc : isN (.exc x) = false := rfl
@[simp] theorem isN_cls : isN (.cls x) = false := rfl
end
end DL
namespace DL
open PySem PySem.Spec PyProof.Rows L2
def leT (a b : Str) : Prop := a.cps.toList ≤ b.cps.toList
instance (a b : Str) : Decidable (leT a b) := by unfold leT; exact inferInstance
theorem leT_trans {a b c : Str} (h : leT a b) (k : leT b c) : leT a c := List.le_trans h k
theorem leT_total (a b : Str) : leT a b ∨ leT b a := List.le_total _ _
def insT (n : Str) : List Str → List Str
  | [] => [n]
  | m :: r => if leT n m then n :: m :: r else m :: insT n r
def sortT : List Str → List Str
  | [] => []
  | n :: r => insT n (sortT r)
def strsOf : List D → Option (List Str)
  | [] => some []
  | .str i :: ds => (strsOf ds).map (i :: ·)
  | _ => none
theorem strsOf_iff : ∀ {ds : List D} {ns : List Str}, strsOf ds = some ns → ds = ns.map D.str
  | [], ns, h => by cases h; rfl
  | d :: ds, ns, h => by
    unfold strsOf at h
    split at h
    · rename_i e
      cases e
    · rename_i e
      cases e
      obtain ⟨ks, h1, rfl⟩ := Option.map_eq_some_iff.mp h
      rw [strsOf_iff h1]
      rfl
    · cases h
@[simp] theorem strsOf_map (xs : List Str) : strsOf (xs.map D.str) = some xs := by
  induction xs with
  | nil => rfl
  | cons x xs ih => simp [strsOf, ih]
section
variable {X : Cx}
def rSetTup (K : PySem.W.Frag) (w : World) : List V → Hp → VK → Prop := fun xs H Q => ∃ (l : Addr) (ns : List Int), xs = [.ref l] ∧ SqT K H l (ns.map V.int) ∧ ns.length ≤ 60 ∧
  ∀ (c : Nat) (p : Addr), c ≤ ns.length → H p = none → Q (.ref p) (upd H p (SetO w p (fun j => decide (j ∈ ns)) c))
theorem cr_setTup (hc : X.calm = true) : CallR X (.type "set") (rSetTup X.K X.w) := by
  intro pins s σ H xs us Q I r h
  obtain ⟨l, ns, rfl, hq, hl, q⟩ := h
  obtain ⟨its, rv, pt, hz⟩ := I.tuple hq
  rw [Vals.ref1 r]
  have hi : IntsAre its.toArray.toList ns := ints_of_vals rv
  refine call_set_tupI ns (I.ok.hd hc) (show s.heap.IsTuple l its.toArray from pt) hi (by unfold scanBound; omega) fun h' tk c R1 hcn k => ?_
  exact ⟨.ref s.heap.objs.size, _, I.laid (t' := tk) (o := SetO X.w s.heap.objs.size (fun j => decide (j ∈ ns)) c) k (Nat.le_refl _) (setO_new R1), rfl, q c _ hcn (I.hok.fresh (Nat.le_refl _))⟩
end
/-- the numbers once each, rising -/
def onceI : List Int → List Int
  | [] => []
  | x :: r => if x ∈ r then onceI r else x :: onceI r
theorem onceI_mem : ∀ {l : List Int} {k : Int}, k ∈ onceI l ↔ k ∈ l
  | [], k => by simp [onceI]
  | x :: r, k => by
    unfold onceI
    split
    · rename_i h
      rw [onceI_mem, List.mem_cons]
      exact ⟨.inr, fun z => z.elim (fun e => e ▸ h) id⟩
    · rw [List.mem_cons, List.mem_cons, onceI_mem]
theorem onceI_nodup : ∀ l : List Int, (onceI l).Nodup
  | [] => .nil
  | x :: r => by
    unfold onceI
    split
    · exact onceI_nodup r
    · rename_i h
      exact List.nodup_cons.mpr ⟨fun z => h (onceI_mem.mp z), onceI_nodup r⟩
def setI (ns : List Int) : List Int := sortI (onceI ns)
theorem setI_is {ns ys : List Int} (h1 : ys.Pairwise (· < ·)) (h2 : ∀ k, k ∈ ys ↔ k ∈ ns) : ys = setI ns := by
  have nd : ys.Nodup := h1.imp fun h => Int.ne_of_lt h
  refine sortI_is ?_ (h1.imp fun h => Int.le_of_lt h)
  exact (List.perm_ext_iff_of_nodup nd (onceI_nodup ns)).mpr fun k => (h2 k).trans onceI_mem.symm
theorem setI_len (ns : List Int) : (setI ns).length ≤ ns.length := by
  unfold setI
  rw [sortI_len]
  induction ns with
  | nil => exact Nat.le_refl _
  | cons x r ih =>
    unfold onceI
    split
    · exact Nat.le_succ_of_le ih
    · exact Nat.succ_le_succ ih
def wSortSet (m : WE) : WE := fun e st X Q => m e st X fun d st1 => on ((tpOf d).bind intsOf) fun ns => ns.length ≤ 60 ∧ Q (.lst ((setI ns).map .int)) st1
@[simp] theorem wSortSet_ap {m : WE} {e : DL.Env} {st : Sto} {X : PoX} {Q : PoE} : wSortSet m e st X Q = m e st X fun d st1 => on ((tpOf d).bind intsOf) fun ns => ns.length ≤ 60 ∧ Q (.lst ((setI ns).map .int)) st1 := id rfl
section
variable {X : Cx} {E : XK} {a : Expr} {p p2 pos pos2 : Pos} {m : WE}
theorem e_sortSet (hc : X.calm = true) (fr : Frees X.mg) (ha : PEw X E a m) (hg : Gl X "sorted" := by rfl) (hg2 : Gl X "set" := by rfl) (he : starEach [a] X.env = (false, eval a X.env) :: starEach [] X.env := by rfl)
    (he2 : starEach [.Call (.Name "set" p2) [a] [] pos2] X.env = (false, eval (.Call (.Name "set" p2) [a] [] pos2) X.env) :: starEach [] X.env := by rfl) :
    PEw X E (.Call (.Name "sorted" p) [.Call (.Name "set" p2) [a] [] pos2] [] pos) (wSortSet m) := by
  have h1 : PE X (.Call (.Name "set" p2) [a] [] pos2) _ := pe_callTy (cr_setTup hc) hg2 fr.set (by decide +kernel) (pa_cons ha pa_nil he) (by decide) (by decide) he rfl
  refine pe_imp (pe_callB (cr_sortedSet hc) hg fr.sorted (by decide +kernel) (pa_cons h1 pa_nil he2) (by decide) (by decide) he2 rfl) fun σ H Q ⟨B, e, st, Qd, Xd, S, pq, px, mm⟩ => ?_
  refine ⟨B, e, st, _, Xd, S, fun d st1 v H1 m1 x1 k1 r1 => ?_, px, mm⟩
  obtain ⟨ns, e1, hz, q⟩ := on_iff.mp m1
  obtain ⟨ds, e2, e3⟩ := Option.bind_eq_some_iff.mp e1
  obtain ⟨l, vs, rfl, hq, rl, _⟩ := tp_of r1 e2
  rw [intsOf_iff.mp e3] at rl
  rw [rl.ints] at hq
  refine ⟨l, ns, rfl, hq, hz, fun c p hc2 hp => ⟨p, _, c, rfl, upd_same, by omega, fun ys q1 hy hm hl hn => ?_⟩⟩
  have e4 := setI_is hy fun k => (hm k).trans decide_eq_true_iff
  subst e4
  have x2 := ext_new (H := H1) (M := mu st1 B) (o := SetO X.w p (fun j => decide (j ∈ ns)) c) hp
  have k2 := k1.new (o := SetO X.w p (fun j => decide (j ∈ ns)) c) hp
  obtain ⟨x3, k3, r3⟩ := new_lst k2 hn (repL_ints (setI ns)) (by
    rw [List.length_map, sizeLine_eq]
    have := setI_len ns
    omega)
  exact pq _ st1 _ _ q ((x1.trans x2).trans x3) k3 r3
end
theorem okS_join {a : Str} (ha : okS a = true) : ∀ {ys : List Str}, (∀ y ∈ ys, okS y = true) → okS (Txt.join a ys) = true := by
  intro ys h
  rw [show Txt.join a ys = Str.join a ys from TL.join_eq a ys]
  induction ys with
  | nil => exact (by decide +kernel : okS Str.empty = true)
  | cons y r ih =>
    cases r with
    | nil => exact h y List.mem_cons_self
    | cons z r =>
      show okS (y ++ a ++ Str.join a (z :: r)) = true
      exact okS_append (okS_append (h y List.mem_cons_self) ha) (ih fun x hx => h x (List.mem_cons_of_mem _ hx))
def mJoin (st : Sto) (x : D) (as : List D) : Option (D × Sto) := match x, as with
  | .str a, [l] => ((sqOf st l).bind strsOf).bind fun ys => if (ys.map (·.length)).sum + ys.length * a.length ≤ 16777216 then some (.str (Txt.join a ys), st) else none
  | _, _ => none
theorem mJoin_ok {K : PySem.W.Frag} : MeOk K (fun x xs H Q => ∃ a p, ∃ ys : List Str, x = .str a ∧ xs = [.ref p] ∧ (SqL K H p (ys.map V.str) ∨ SqT K H p (ys.map V.str)) ∧
    (ys.map (·.length)).sum + ys.length * a.length ≤ 16777216 ∧ Q (.str (Txt.join a ys)) H) mJoin := by
  intro B H st x dx xs dxs d st' Q k rx rs e g
  unfold mJoin at e
  split at e
  · rename_i a l
    obtain ⟨ys, e1, e2⟩ := Option.bind_eq_some_iff.mp e
    obtain ⟨ds, e3, e4⟩ := Option.bind_eq_some_iff.mp e1
    split at e2 <;> cases e2
    rename_i hz
    cases rx with
    | str _ ha =>
      cases rs with
      | cons r1 r2 =>
        cases r2
        rw [strsOf_iff e4] at e3
        obtain ⟨p, vs, rfl, hs, rl, _⟩ := sq_of k r1 e3
        obtain ⟨rfl, hk⟩ := rl.strs
        exact ⟨a, p, ys, rfl, rfl, hs, hz, g _ _ .refl k (.str _ (okS_join ha hk))⟩
  · cases e
section
variable {X : Cx} {E : XK} {a o : Expr} {mo : WE} {n : Nat} {m : WA} {apos cpos : Pos}
theorem e_join (ho : PEw X E o mo) (ha : PAw X E [a] n m) (hbase : attributeBase o "join" X.env (eval o X.env) = eval o X.env := by rfl)
    (hfew : ((backTo cpos (starEach [a] X.env)).all (fun x => !x.1) && (backToKw cpos (keywordEach [] X.env)).all (fun x => x.1.isSome)
      && decide ([a].length + ([] : List Keyword).length + (if ([] : List Keyword).isEmpty then 0 else 1) < 30)) = true := by rfl)
    (hline : (apos.endLine == cpos.line) = true := by rfl) (hs : starEach [a] X.env = (false, eval a X.env) :: starEach [] X.env := by rfl) : PEw X E (.Call (.Attribute o "join" apos) [a] [] cpos) (wMeth "str" mJoin mo m) :=
  e_bm (.inr (.inr rfl)) PySem.F.plainAttrs_str PySem.F.slot_str_join PySem.F.type_str_join mt_join mJoin_ok ho ha hbase hfew hline hs rfl
end
end DL
namespace PyProof.Rows
open PySem
end PyProof.Rows
namespace DL
open PySem PySem.Spec PyProof.Rows L2
/-- sorted of a tuple of numbers -/
def cSortedTup (_ : Sto) : List D → Option D
  | [d] => ((tpOf d).bind intsOf).map fun xs => .lst ((sortI xs).map .int)
  | _ => none
@[simp] theorem cSortedTup_ap {st : Sto} {xs : List Int} : cSortedTup st [.tup (xs.map .int)] = some (.lst ((sortI xs).map .int)) := by
  show ((intsOf (xs.map D.int)).map _) = _
  rw [intsOf_iff.mpr rfl]; rfl
end DL
namespace DL
open PySem PySem.Spec PyProof.Rows L2
def WellOk (r : List D) : Prop := ∃ x y : Int, r = [.int x, .int y] ∧ 0 ≤ x ∧ 0 ≤ y ∧ y < 2147483629
section
variable {st : Sto} {X : PoX} {Q : PoE} {n m : Int}
/-- the thing's kind is known; a whole number is an int -/
def Kn (st : Sto) (d : D) : Prop := ∃ t, tyNm st d = some t
def isI : D → Bool
  | .int _ => true
  | _ => false
theorem kn_int {st : Sto} {i : Int} : Kn st (.int i) := ⟨_, rfl⟩
theorem ty_isI {st : Sto} {d : D} {t : String} (h : tyNm st d = some t) : (isiB t "int" && !isiB t "bool") = isI d := by
  cases d with
  | ref a =>
    unfold tyNm at h
    simp only at h
    split at h <;> cases h <;> rfl
  | non => cases h; rfl
  | bl b => cases h; rfl
  | int i => cases h; rfl
  | str x => cases h; rfl
  | tup ds => cases h; rfl
  | kt ds => cases h; rfl
  | lst ds => cases h; rfl
  | kl ds => cases h; rfl
  | ty n => cases h
  | exc x => cases h
  | cls x => cases h
theorem ap_is_wholeD {d : D} (hk : Kn st d) (hq : Q (.bl (isI d)) st) : F_is_whole [d] st X Q := by
  obtain ⟨t, ht⟩ := hk
  have e := ty_isI ht
  simp only [F_is_whole, wDef_ap]
  refine ⟨rfl, ?_⟩
  simp [ht]
  simp [isiB] at e ⊢
  by_cases h1 : t = "int"
  · subst h1
    simp at e ⊢
    rw [e] at hq
    exact hq
  · by_cases h2 : t = "bool"
    · subst h2
      simp at e ⊢
      rw [e] at hq
      exact hq
    · simp [h1, h2] at e ⊢
      rw [e] at hq
      exact hq
end
end DL
namespace DL
open PySem PySem.Spec PyProof.Rows L2
def F_is_side : WF := wDef 3 2 true (wSeq (wIfS (wTOr (wTNot (wTT (wCall cIsi (wCons (wVar 1) (wCons (wC (.ty "tuple")) wNil))))) (wTB (wBin dNe (wComp (wiSeq (wVar 1)) (.nm 2) (wTNot (wTT (wFn F_is_house (wCons (wVar 0) (wCons (wVar 2) wNil))))) (wVar 2) [2]) (wLst wNil)))) (wRet (wC (.bl false))) wSkip) (wRet (wAnd (wChain dLt dLt (wC (.int 0)) (wCall cLen (wCons (wVar 1) wNil)) (wVar 0)) (wBin dEq (wCall cList (wCons (wVar 1) wNil)) (wSortSet (wVar 1))))))
def encT {α : Type} (f : α → D) (kvs : List (Str × α)) : List (L2.Key × D) := kvs.map fun q => ((Sum.inr q.1 : L2.Key), f q.2)
def getT {α : Type} (kvs : List (Str × α)) (k : Str) : Option α := (kvs.find? fun q => decide (q.1 = k)).map (·.2)
def putT {α : Type} (kvs : List (Str × α)) (k : Str) (v : α) : List (Str × α) := if kvs.any (fun q => decide (q.1 = k)) then kvs.map (fun q => if q.1 = k then (q.1, v) else q) else kvs ++ [(k, v)]
section
variable {α : Type} {f : α → D} {kvs more : List (Str × α)} {st : Sto} {a : Addr} {k : Str} {v : α}
theorem encT_val : ∀ {kvs : List (Str × α)}, valD (encT f kvs) (Sum.inr k) = (getT kvs k).map f
  | [] => rfl
  | (a, b) :: r => by
    show (if (Sum.inr a : L2.Key) = Sum.inr k then some (f b) else valD (encT f r) (Sum.inr k)) = _
    unfold getT
    by_cases h : a = k
    · subst h; simp
    · rw [if_neg (fun z => h (Sum.inr.inj z)), encT_val, List.find?_cons_of_neg (by simpa using h)]; rfl
theorem encT_put : putKD (encT f kvs) (Sum.inr k) (f v) = encT f (putT kvs k v) := by
  have ha : ((encT f kvs).any fun kv => decide (kv.1 = (Sum.inr k : L2.Key))) = kvs.any fun q => decide (q.1 = k) := by
    unfold encT
    rw [List.any_map]
    congr 1
    funext q
    show decide ((Sum.inr q.1 : L2.Key) = Sum.inr k) = decide (q.1 = k)
    by_cases h : q.1 = k
    · rw [h]; simp
    · rw [decide_eq_false h, decide_eq_false (fun z => h (Sum.inr.inj z))]
  unfold putKD putT
  rw [ha]
  split
  · unfold encT
    rw [List.map_map, List.map_map]
    refine List.map_congr_left fun q _ => ?_
    show (if (Sum.inr q.1 : L2.Key) = Sum.inr k then ((Sum.inr q.1 : L2.Key), f v) else (Sum.inr q.1, f q.2)) = ((Sum.inr (if q.1 = k then (q.1, v) else q).1 : L2.Key), f (if q.1 = k then (q.1, v) else q).2)
    by_cases h : q.1 = k
    · rw [if_pos h, if_pos (by rw [h])]
    · rw [if_neg h, if_neg (fun z => h (Sum.inr.inj z))]
  · unfold encT
    rw [List.map_append]; rfl
theorem dctGet_T (h : st a = some (.dk (encT f kvs))) : dctGet (st a) (.str k) = some ((getT kvs k).map f) := by
  rw [h]
  show (keyOf (.str k)).map (fun key => valD (encT f kvs) key) = _
  show some (valD (encT f kvs) (Sum.inr k)) = _
  rw [encT_val]
theorem putD_T (h : st a = some (.dk (encT f kvs))) (hz : kvs.length < sizeLine) : putD st (.ref a) (.str k) (f v) = some (st.set a (.dk (encT f (putT kvs k v)))) := by
  unfold putD
  simp only
  rw [h]
  show (if (encT f kvs).length < sizeLine then some (st.set a (.dk (putKD (encT f kvs) (Sum.inr k) (f v)))) else none) = _
  rw [if_pos (by unfold encT; rw [List.length_map]; exact hz), encT_put]
theorem getT_some : (getT kvs k).isSome = decide (k ∈ kvs.map (·.1)) := by
  unfold getT
  rw [Option.isSome_map, Bool.eq_iff_iff, List.find?_isSome]
  simp only [decide_eq_true_iff, List.mem_map]
theorem inB_T (h : st a = some (.dk (encT f kvs))) : inB st (.str k) (.ref a) = some (decide (k ∈ kvs.map (·.1))) := by
  have e : sqOf st (.ref a) = none := by show cellL (st a) = none; rw [h]; rfl
  show (match sqOf st (.ref a) with | some ds => anyEq st ds (.str k) | none => (dctGet (st a) (.str k)).map Option.isSome) = _
  rw [e]
  show (dctGet (st a) (.str k)).map Option.isSome = _
  rw [dctGet_T h]
  show some ((getT kvs k).map f).isSome = _
  rw [Option.isSome_map, getT_some]
theorem dIn_T (h : st a = some (.dk (encT f kvs))) : dIn st (.str k) (.ref a) = some (.bl (decide (k ∈ kvs.map (·.1)))) := by
  show (inB st (.str k) (.ref a)).map D.bl = _
  rw [inB_T h]; rfl
theorem dNotIn_T (h : st a = some (.dk (encT f kvs))) : dNotIn st (.str k) (.ref a) = some (.bl (!decide (k ∈ kvs.map (·.1)))) := by
  show (inB st (.str k) (.ref a)).map (fun b => D.bl (!b)) = _
  rw [inB_T h]; rfl
theorem ixD_T (h : st a = some (.dk (encT f kvs))) (e : getT kvs k = some v) : ixD st (.ref a) (.str k) = some (f v) := by
  have e1 : sqOf st (.ref a) = none := by show cellL (st a) = none; rw [h]; rfl
  show (match sqOf st (.ref a) with | some ds => none | none => (dctGet (st a) (.str k)).bind id) = _
  rw [e1]
  show (dctGet (st a) (.str k)).bind id = _
  rw [dctGet_T h, e]; rfl
theorem putT_new (h : k ∉ kvs.map (·.1)) : putT kvs k v = kvs ++ [(k, v)] := by
  unfold putT
  rw [if_neg]
  intro z
  obtain ⟨q, hq, e⟩ := List.any_eq_true.mp z
  exact h (List.mem_map.mpr ⟨q, hq, of_decide_eq_true e⟩)
theorem putT_old (h : k ∈ kvs.map (·.1)) : putT kvs k v = kvs.map fun q => if q.1 = k then (q.1, v) else q := by
  unfold putT
  rw [if_pos]
  obtain ⟨q, hq, e⟩ := List.mem_map.mp h
  exact List.any_eq_true.mpr ⟨q, hq, decide_eq_true e⟩
theorem putT_keys : (putT kvs k v).map (·.1) = if k ∈ kvs.map (·.1) then kvs.map (·.1) else kvs.map (·.1) ++ [k] := by
  by_cases h : k ∈ kvs.map (·.1)
  · rw [putT_old h, if_pos h, List.map_map]
    refine List.map_congr_left fun q _ => ?_
    show (if q.1 = k then (q.1, v) else q).1 = q.1
    split <;> rfl
  · rw [putT_new h, if_neg h, List.map_append]; rfl
end
def ntsD (l : List Nt) : D := .tup (l.map Nt.d)
def ltT (a b : Str) : Prop := leT a b ∧ a ≠ b
/-- names rising -/
def NtsOk (l : List Nt) : Prop := (l.map (·.n)).Pairwise ltT ∧ ∀ z ∈ l, nameOk z.n = true
def insNt (z : Nt) : List Nt → List Nt
  | [] => [z]
  | y :: r => if leT z.n y.n then z :: y :: r else y :: insNt z r
def keepN (l : List Nt) : Option Nt → List Nt
  | none => l
  | some z => match l.find? (fun y => decide (y.n = z.n)) with
    | none => insNt z l
    | some y => if y.u ≤ z.u then l.map (fun o => if o.n = z.n then z else o) else l
theorem ltT_nodup {l : List Str} (h : l.Pairwise ltT) : l.Nodup := h.imp fun h => h.2
theorem insNt_perm {z : Nt} : ∀ {l : List Nt}, (insNt z l).Perm (z :: l)
  | [] => .refl _
  | y :: r => by
    unfold insNt
    split
    · exact .refl _
    · exact (insNt_perm.cons y).trans (.swap z y r)
theorem insNt_srt {z : Nt} : ∀ {l : List Nt}, (l.map (·.n)).Pairwise ltT → z.n ∉ l.map (·.n) → ((insNt z l).map (·.n)).Pairwise ltT
  | [], _, _ => by simp [insNt]
  | y :: r, h, hn => by
    rw [List.map_cons] at h hn
    obtain ⟨h1, h2⟩ := List.pairwise_cons.mp h
    unfold insNt
    split
    · rename_i le
      rw [List.map_cons]
      refine List.pairwise_cons.mpr ⟨fun x hx => ?_, by rw [List.map_cons]; exact h⟩
      have ne : z.n ≠ x := fun e => hn (by rw [e]; simpa using hx)
      rw [List.map_cons] at hx
      rcases List.mem_cons.mp hx with rfl | hx
      · exact ⟨le, ne⟩
      · exact ⟨leT_trans le (h1 x hx).1, ne⟩
    · rename_i le
      rw [List.map_cons]
      refine List.pairwise_cons.mpr ⟨fun x hx => ?_, insNt_srt h2 fun e => hn (List.mem_cons_of_mem _ e)⟩
      have hx2 := (insNt_perm.map (·.n)).mem_iff.mp hx
      rw [List.map_cons] at hx2
      rcases List.mem_cons.mp hx2 with rfl | hx2
      · exact ⟨(leT_total _ _).resolve_left le, fun e => hn (by rw [e]; exact List.mem_cons_self)⟩
      · exact h1 x hx2
theorem find_none {l : List Nt} {n : Str} (h : l.find? (fun y => decide (y.n = n)) = none) : n ∉ l.map (·.n) := fun z => by
  obtain ⟨y, hy, e⟩ := List.mem_map.mp z
  have := List.find?_eq_none.mp h y hy
  simp [e] at this
theorem keepN_ok {l : List Nt} {no : Option Nt} (h : NtsOk l) (hn : ∀ z, no = some z → nameOk z.n = true) : NtsOk (keepN l no) := by
  cases no with
  | none => exact h
  | some z =>
    have hz := hn z rfl
    unfold keepN
    simp only
    split
    · rename_i e
      refine ⟨insNt_srt h.1 (find_none e), fun y hy => ?_⟩
      rcases List.mem_cons.mp (insNt_perm.mem_iff.mp hy) with rfl | hy
      · exact hz
      · exact h.2 y hy
    · split
      · refine ⟨?_, fun y hy => ?_⟩
        · have e : (l.map fun o => if o.n = z.n then z else o).map (·.n) = l.map (·.n) := by
            rw [List.map_map]
            refine List.map_congr_left fun o _ => ?_
            show (if o.n = z.n then z else o).n = o.n
            split
            · rename_i e; exact e.symm
            · rfl
          rw [e]; exact h.1
        · obtain ⟨o, ho, rfl⟩ := List.mem_map.mp hy
          split
          · exact hz
          · exact h.2 o ho
      · exact h
theorem keepN_len {l : List Nt} {no : Option Nt} : (keepN l no).length ≤ l.length + 1 := by
  cases no with
  | none => exact Nat.le_succ _
  | some z =>
    unfold keepN
    simp only
    split
    · rw [insNt_perm.length_eq]; exact Nat.le_refl _
    · split
      · rw [List.length_map]; exact Nat.le_succ _
      · exact Nat.le_succ _
def ntP (z : Nt) : Str × Nt := (z.n, z)
inductive De where
  | claim (h : Int) (n p : Str) | renew (h : Int) (n : Str) | back (h : Int) (n : Str) | carry (k : Int) | copy (k : Int) | lose (k : Int) | fall (h : Int) | rise (h : Int) | part (s : List Int) | heal | round
  deriving DecidableEq
def De.d : De → D
  | .claim h n p => .tup [.str "claim", .int h, .str n, .str p]
  | .renew h n => .tup [.str "renew", .int h, .str n]
  | .back h n => .tup [.str "back", .int h, .str n]
  | .carry k => .tup [.str "carry", .int k]
  | .copy k => .tup [.str "copy", .int k]
  | .lose k => .tup [.str "lose", .int k]
  | .fall h => .tup [.str "fall", .int h]
  | .rise h => .tup [.str "rise", .int h]
  | .part s => .tup [.str "part", .tup (s.map .int)]
  | .heal => .tup [.str "heal"]
  | .round => .tup [.str "round"]
def houseOk (m h : Int) : Prop := 0 ≤ h ∧ h < m
def sideOk (m : Int) (s : List Int) : Prop := (∀ h ∈ s, houseOk m h) ∧ 0 < s.length ∧ (s.length : Int) < m ∧ s.Pairwise (· < ·)
def De.ok (m : Int) : De → Prop
  | .claim h n p => houseOk m h ∧ nameOk n = true ∧ nameOk p = true
  | .renew h n => houseOk m h ∧ nameOk n = true
  | .back h n => houseOk m h ∧ nameOk n = true
  | .carry k => 0 ≤ k
  | .copy k => 0 ≤ k
  | .lose k => 0 ≤ k
  | .fall h => houseOk m h
  | .rise h => houseOk m h
  | .part s => sideOk m s
  | .heal => True
  | .round => True
end DL
namespace DL
open PySem PySem.Spec PyProof.Rows L2
def Le.fr : Le → Int
  | .ask s _ _ _ _ _ => s | .word s _ _ _ _ => s | .no s _ _ _ => s | .back s _ _ _ => s | .told s _ _ _ _ _ => s
def Le.to : Le → Int
  | .ask _ t _ _ _ _ => t | .word _ t _ _ _ => t | .no _ t _ _ => t | .back _ t _ _ => t | .told _ t _ _ _ _ => t
def Le.u : Le → Int
  | .ask _ _ _ _ _ u => u | .word _ _ _ _ u => u | .told _ _ _ _ _ u => u | _ => 0
/-- a letter of a world -/
def LeOk (m : Int) : Le → Prop
  | .ask s t n k p u => houseOk m s ∧ houseOk m t ∧ s ≠ t ∧ nameOk n = true ∧ 1 ≤ k ∧ nameOk p = true ∧ 1 ≤ u
  | .word s t n k u => houseOk m s ∧ houseOk m t ∧ s ≠ t ∧ nameOk n = true ∧ 1 ≤ k ∧ 1 ≤ u
  | .no s t n k => houseOk m s ∧ houseOk m t ∧ s ≠ t ∧ nameOk n = true ∧ 1 ≤ k
  | .back s t n k => houseOk m s ∧ houseOk m t ∧ s ≠ t ∧ nameOk n = true ∧ 1 ≤ k
  | .told s t n k p u => houseOk m s ∧ houseOk m t ∧ s ≠ t ∧ nameOk n = true ∧ 1 ≤ k ∧ nameOk p = true ∧ 0 ≤ u
theorem LeOk.hs {m : Int} {l : Le} (h : LeOk m l) : houseOk m l.fr ∧ houseOk m l.to ∧ l.fr ≠ l.to := by
  cases l <;> exact ⟨h.1, h.2.1, h.2.2.1⟩
theorem LeOk.ok {m : Int} {l : Le} (h : LeOk m l) : l.ok m := by
  cases l <;> first | trivial | (obtain ⟨h1, _, _, h3, h4, h5⟩ := h; exact ⟨h3, h4, h1.1, h1.2, h5⟩)
structure Wo where
  now : Int
  term : Int
  logs : List (List En)
  nts : List (List Nt)
  down : List Int
  side : List Int
  yard : List Le
  deriving DecidableEq
def logD (es : List En) : D := .tup (es.map En.d)
def Wo.d (w : Wo) : D := .tup [.int w.now, .int w.term, .tup (w.logs.map logD), .tup (w.nts.map ntsD), .tup (w.down.map .int), .tup (w.side.map .int), .tup (w.yard.map Le.d)]
def Wo.m (w : Wo) : Int := w.logs.length
def Wo.log (w : Wo) (h : Int) : List En := (w.logs[h.toNat]?).getD []
def Wo.ntl (w : Wo) (h : Int) : List Nt := (w.nts[h.toNat]?).getD []
/-- the greatest number that a log asks for, of all names -/
def maxAsk (es : List En) : Int := maxL 0 ((es.filter fun e => decide (e.kind = "ask")).map En.i2)
structure LogOk (m : Int) (n : Nat) (es : List En) : Prop where
  ok : ∀ e ∈ es, e.ok m
  len : es.length ≤ 3 * n
  bk : ∀ x k, En.back x k ∈ es → k ≤ maxAsk es
structure WOk (n : Nat) (w : Wo) : Prop where
  m1 : 1 ≤ w.m
  m7 : w.m ≤ 7
  nl : w.nts.length = w.logs.length
  now : 0 ≤ w.now
  term : 2 ≤ w.term
  logs : ∀ es ∈ w.logs, LogOk w.m n es
  nts : ∀ l ∈ w.nts, NtsOk l ∧ l.length ≤ n
  down : ∀ h ∈ w.down, houseOk w.m h
  dlen : w.down.length ≤ n
  dsrt : w.down.Pairwise (· < ·)
  yard : ∀ l ∈ w.yard, LeOk w.m l
  ylen : w.yard.length ≤ 14 * n
  til : ∀ es ∈ w.logs, ∀ e ∈ es, e.i4 ≤ w.now + w.term
  ytil : ∀ l ∈ w.yard, l.u ≤ w.now + w.term
section
variable {w : Wo} {n : Nat} {h : Int}
theorem log_at (h0 : houseOk w.m h) : w.logs[h.toNat]? = some (w.log h) ∧ w.log h ∈ w.logs := by
  obtain ⟨h1, h2⟩ := h0
  have h3 : h.toNat < w.logs.length := by unfold Wo.m at h2; omega
  unfold Wo.log
  rw [List.getElem?_eq_getElem h3]
  exact ⟨rfl, List.getElem_mem h3⟩
theorem ntl_at (ok : WOk n w) (h0 : houseOk w.m h) : w.nts[h.toNat]? = some (w.ntl h) ∧ w.ntl h ∈ w.nts := by
  obtain ⟨h1, h2⟩ := h0
  have h3 : h.toNat < w.nts.length := by have := ok.nl; unfold Wo.m at h2; omega
  unfold Wo.ntl
  rw [List.getElem?_eq_getElem h3]
  exact ⟨rfl, List.getElem_mem h3⟩
theorem WOk.log (ok : WOk n w) (h0 : houseOk w.m h) : LogOk w.m n (w.log h) := ok.logs _ (log_at h0).2
end
def standsW (w : Wo) (h : Int) (n : Str) : Bool := match claimOf (w.log h) n with
  | none => false
  | some c => decide (w.now < c.til)
def partedW (w : Wo) (l : Le) : Bool := decide (l.fr ∈ w.side) != decide (l.to ∈ w.side)
def movedW (w : Wo) (h : Int) (es : List En) (ls : List Le) (no : Option Nt) : Wo :=
  { w with logs := w.logs.set h.toNat (w.log h ++ es), nts := w.nts.set h.toNat (keepN (w.ntl h) no), yard := w.yard ++ ls }
def ownWord (es : List En) (h : Int) (n : Str) (k u now : Int) : List En :=
  if isDue es n h k u now then [.word n h k u, .got n k h u] else
  match wordIn es n, claimOf es n with
  | some (h', k', _), some c => if (h' = h ∧ k' = k) ∨ h ∈ c.others ∨ h ∈ c.words.map (·.1) then [] else [.no n k h]
  | _, _ => []
def askedW (w : Wo) (h : Int) (n : Str) (k : Int) (p : Str) : Wo :=
  let u := w.now + w.term
  let log := w.log h ++ [.ask n k p u]
  let es := ownWord log h n k u w.now
  let nw := newsOf w.m h log es n w.now
  movedW w h (.ask n k p u :: es) (((others w.m h).map fun o => .ask h o n k p u) ++ nw.2) nw.1
def backW (w : Wo) (h : Int) (n : Str) : Wo := match claimOf (w.log h) n with
  | none => w
  | some c => movedW w h (.back n c.num :: (match wordIn (w.log h) n with
      | some (h', k', _) => if h' = h ∧ k' = c.num then [.free n h c.num] else []
      | none => [])) ((others w.m h).map fun o => .back h o n c.num) none
def carriedW (w : Wo) (k : Int) : Wo := match w.yard[k.toNat]? with
  | none => w
  | some l => movedW { w with yard := w.yard.eraseIdx k.toNat } l.to (taken w.m l.to (w.log l.to) l w.now).es (taken w.m l.to (w.log l.to) l w.now).ls (taken w.m l.to (w.log l.to) l w.now).nt
def copyW (w : Wo) (k : Int) : Wo := match w.yard[k.toNat]? with
  | none => w
  | some l => { w with yard := w.yard ++ [l] }
def behindW (w : Wo) : De → Wo
  | .claim h n p => askedW w h n (1 + maxAsk (w.log h)) p
  | .renew h n => match claimOf (w.log h) n with
    | none => w
    | some c => askedW w h n c.num c.per
  | .back h n => backW w h n
  | .carry k => carriedW w k
  | .copy k => copyW w k
  | .lose k => { w with yard := w.yard.eraseIdx k.toNat }
  | .fall h => { w with nts := w.nts.set h.toNat [], down := sortI (w.down ++ [h]) }
  | .rise h => { w with down := w.down.filter fun x => !decide (x = h) }
  | .part s => { w with side := s }
  | .heal => { w with side := [] }
  | .round => { w with now := w.now + 1 }
def letRef (w : Wo) : De → Option Str
  | .carry k => if k < w.yard.length then none else some "NoLetter"
  | .copy k => if k < w.yard.length then none else some "NoLetter"
  | .lose k => if k < w.yard.length then none else some "NoLetter"
  | _ => none
def upRef (w : Wo) : De → Option Str
  | .claim h _ _ => if h ∈ w.down then some "Down" else none
  | .renew h _ => if h ∈ w.down then some "Down" else none
  | .back h _ => if h ∈ w.down then some "Down" else none
  | .fall h => if h ∈ w.down then some "Down" else none
  | .carry k => match w.yard[k.toNat]? with
    | none => none
    | some l => if l.to ∈ w.down then some "Down" else none
  | .rise h => if h ∈ w.down then none else some "Up"
  | _ => none
def wayRef (w : Wo) : De → Option Str
  | .carry k => match w.yard[k.toNat]? with
    | none => none
    | some l => if partedW w l then some "NoLetter" else none
  | _ => none
def clRef (w : Wo) : De → Option Str
  | .claim h n _ => if standsW w h n then some "Busy" else none
  | .renew h n => if standsW w h n then none else some "NoClaim"
  | .back h n => if standsW w h n then none else some "NoClaim"
  | _ => none
/-- why a deed is refused -/
def refusal (w : Wo) (e : De) : Option Str := (letRef w e).or ((upRef w e).or ((wayRef w e).or (clRef w e)))
section
variable {st : Sto} {X : PoX} {Q : PoE} {w : Wo} {n : Nat} {h k : Int} {x : Str}
theorem let_at (h0 : 0 ≤ k) (hl : k < w.yard.length) : ∃ l, w.yard[k.toNat]? = some l ∧ l ∈ w.yard := by
  have h3 : k.toNat < w.yard.length := by omega
  exact ⟨_, List.getElem?_eq_getElem h3, List.getElem_mem h3⟩
end
end DL
namespace DL
open PySem PySem.Spec PyProof.Rows L2
section
variable {st : Sto} {X : PoX} {Q : PoE} {w : Wo} {n : Nat} {h k u : Int} {x p : Str} {es : List En}
@[simp] theorem ixD_W0 : ixD st w.d (.int 0) = some (.int w.now) := by rw [Wo.d, ixD_tup, atI_0]
@[simp] theorem ixD_W1 : ixD st w.d (.int 1) = some (.int w.term) := by rw [Wo.d, ixD_tup, atI_1]
@[simp] theorem ixD_W2 : ixD st w.d (.int 2) = some (.tup (w.logs.map logD)) := by rw [Wo.d, ixD_tup, atI_2]
@[simp] theorem ixD_W3 : ixD st w.d (.int 3) = some (.tup (w.nts.map ntsD)) := by rw [Wo.d, ixD_tup]; rfl
@[simp] theorem ixD_W4 : ixD st w.d (.int 4) = some (.tup (w.down.map .int)) := by rw [Wo.d, ixD_tup]; rfl
@[simp] theorem ixD_W5 : ixD st w.d (.int 5) = some (.tup (w.side.map .int)) := by rw [Wo.d, ixD_tup]; rfl
@[simp] theorem ixD_W6 : ixD st w.d (.int 6) = some (.tup (w.yard.map Le.d)) := by rw [Wo.d, ixD_tup]; rfl
theorem greatest_le_max : greatest es x ≤ maxAsk es := by
  unfold greatest maxAsk
  rcases maxL_mem (askedNums es x) 0 with e | e
  · rw [e]; exact (maxL_ge _ 0).1
  · obtain ⟨a, ha, hb⟩ := List.mem_map.mp e
    obtain ⟨h1, h2, h3⟩ := ents_kind ha
    rw [← hb]
    exact (maxL_ge _ 0).2 _ (List.mem_map.mpr ⟨a, List.mem_filter.mpr ⟨h1, by simpa using h2⟩, rfl⟩)
theorem maxAsk_nn : 0 ≤ maxAsk es := (maxL_ge _ 0).1
theorem ownWord_len {now : Int} : (ownWord es h x k u now).length ≤ 2 := by
  unfold ownWord
  split
  · simp
  · split
    · split <;> simp
    · simp
theorem ownWord_ok {m now : Int} (hx : nameOk x = true) (hk : 1 ≤ k) (h0 : houseOk m h) (hu : 1 ≤ u) : ∀ e ∈ ownWord es h x k u now, e.ok m := by
  have one : (En.word x h k u).ok m := ⟨hx, hk, h0.1, h0.2, hu⟩
  have two : (En.got x k h u).ok m := ⟨hx, hk, h0.1, h0.2, hu⟩
  have three : (En.no x k h).ok m := ⟨hx, hk, h0.1, h0.2⟩
  unfold ownWord
  split
  · simp [one, two]
  · split
    · split
      · simp
      · simp [three]
    · simp
theorem others_len {m h : Int} : ((others m h).length : Int) ≤ max m 0 := by
  have := List.length_filter_le (fun x => !decide (x = h)) (rangeI 0 m)
  have e : (rangeI 0 m).length = m.toNat := by simp [rangeI]
  unfold others
  omega
theorem news_len {m h now : Int} {more : List En} : ((newsOf m h es more x now).2.length : Int) ≤ max m 0 := by
  unfold newsOf
  split
  · simp; omega
  · split
    · simp; omega
    · rw [List.length_map]; exact others_len
theorem news_name {m h now : Int} {more : List En} (hx : nameOk x = true) : ∀ z, (newsOf m h es more x now).1 = some z → nameOk z.n = true := by
  unfold newsOf
  split
  · intro z hz; cases hz
  · split
    · intro z hz; cases hz
    · intro z hz; cases hz; exact hx
theorem wordIn_mem_fold : ∀ (l : List En) (f : Wd), (∀ a, f = some a → En.word x a.1 a.2.1 a.2.2 ∈ es) → (∀ e ∈ l, e ∈ es) → ∀ a, l.foldl (wdStep x) f = some a → En.word x a.1 a.2.1 a.2.2 ∈ es
  | [], f, hf, _, a, ha => hf a ha
  | e :: l, f, hf, hl, a, ha => wordIn_mem_fold l (wdStep x f e) (fun b hb => by
      have he := hl e List.mem_cons_self
      cases e with
      | word n' h' k' u' =>
        by_cases hn : n' = x
        · subst hn
          simp [wdStep, wdA, wdB] at hb
          subst hb
          exact he
        · refine hf b ?_
          simpa [wdStep, wdA, wdB, hn] using hb
      | free n' h' k' =>
        refine hf b ?_
        cases f with
        | none => simp [wdStep, wdA, wdB] at hb
        | some c =>
          obtain ⟨c1, c2, c3⟩ := c
          simp only [wdStep, wdA, wdB] at hb
          split at hb
          · cases hb
          · exact hb
      | _ => exact hf b (by simpa [wdStep, wdA, wdB] using hb)) (fun e' he' => hl e' (List.mem_cons_of_mem _ he')) a ha
theorem wordIn_mem {h' k' u' : Int} (hw : wordIn es x = some (h', k', u')) : En.word x h' k' u' ∈ es :=
  wordIn_mem_fold es none (fun a ha => by cases ha) (fun _ h => h) (h', k', u') hw
theorem claim_facts {m : Int} {c : Cl} (hok : ∀ e ∈ es, e.ok m) (hc : claimOf es x = some c) : c.num = greatest es x ∧ 1 ≤ c.num ∧ En.back x c.num ∉ es ∧ nameOk c.per = true := by
  unfold claimOf at hc
  simp only at hc
  split at hc
  · cases hc
  · rename_i hn
    injection hc with hc
    subst hc
    have g0 : 0 ≤ greatest es x := (maxL_ge _ 0).1
    have g1 : greatest es x ≠ 0 := fun z => hn (.inl z)
    refine ⟨rfl, by show 1 ≤ greatest es x; omega, fun z => hn (.inr z), ?_⟩
    obtain ⟨a, ha, hb⟩ : ∃ a ∈ entsOf es "ask" x, a.i2 = greatest es x := by
      rcases maxL_mem (askedNums es x) 0 with e | e
      · exact absurd e g1
      · exact List.mem_map.mp e
    have hm : a ∈ ats es "ask" x (greatest es x) := List.mem_filter.mpr ⟨ha, by simpa using hb⟩
    cases hl : (ats es "ask" x (greatest es x)).getLast? with
    | none => rw [List.getLast?_eq_none_iff.mp hl] at hm; cases hm
    | some l =>
      have hlm := List.mem_of_getLast? hl
      obtain ⟨h1, h2, h3⟩ := ents_kind (List.mem_filter.mp hlm).1
      have hk := hok l h1
      show nameOk (((some l : Option En).map En.per).getD "") = true
      cases l <;> simp [En.kind] at h2
      exact hk.2.2.2
theorem others_mem {m h o : Int} (ho : o ∈ others m h) : houseOk m o ∧ o ≠ h := by
  unfold others at ho
  obtain ⟨h1, h2⟩ := List.mem_filter.mp ho
  exact ⟨mem_rangeI.mp h1, by simpa using h2⟩
theorem news_ok {m h now : Int} {more : List En} (hok : ∀ e ∈ es ++ more, e.ok m) (h0 : houseOk m h) (hx : nameOk x = true) (hn : 0 ≤ now) : ∀ l ∈ (newsOf m h es more x now).2, LeOk m l ∧ l.u ≤ now := by
  unfold newsOf
  split
  · intro l hl; cases hl
  · split
    · intro l hl; cases hl
    · rename_i c hc
      intro l hl
      obtain ⟨o, ho, rfl⟩ := List.mem_map.mp hl
      obtain ⟨o1, o2⟩ := others_mem ho
      obtain ⟨_, c1, _, c2⟩ := claim_facts hok hc
      exact ⟨⟨h0, o1, fun z => o2 z.symm, hx, c1, c2, hn⟩, Int.le_refl _⟩
def backEs (w : Wo) (h : Int) (x : Str) (k : Int) : List En := .back x k :: (match wordIn (w.log h) x with
  | some (h', k', _) => if h' = h ∧ k' = k then [.free x h k] else []
  | none => [])
theorem backEs_len : (backEs w h x k).length ≤ 2 := by
  unfold backEs
  split
  · split <;> simp
  · simp
theorem WOk.erase (ok : WOk n w) {i : Nat} : WOk n { w with yard := w.yard.eraseIdx i } :=
  { m1 := ok.m1, m7 := ok.m7, nl := ok.nl, now := ok.now, term := ok.term, logs := ok.logs, nts := ok.nts, down := ok.down, dlen := ok.dlen, dsrt := ok.dsrt,
    yard := fun l hl => ok.yard l (List.mem_of_mem_eraseIdx hl),
    ylen := by
      have := ok.ylen
      have := List.length_eraseIdx_le w.yard i
      show (w.yard.eraseIdx i).length ≤ 14 * n
      omega
    til := ok.til, ytil := fun l hl => ok.ytil l (List.mem_of_mem_eraseIdx hl) }
theorem taken_ls_len {m h now : Int} {l : Le} (hm : m ≤ 7) : (taken m h es l now).ls.length ≤ 7 := by
  cases l with
  | ask s t n k p u =>
    unfold taken askTaken
    dsimp only
    split
    · simp
    · split
      · simp
      · split
        · simp
        · split <;> simp
  | word s t n k u =>
    unfold taken wordTaken
    dsimp only
    split
    · simp
    · split
      · simp
      · split
        · simp
        · dsimp only
          have := news_len (m := m) (h := h) (es := es) (more := [.got n k s u]) (x := n) (now := now)
          omega
  | no s t n k => simp [taken]
  | back s t n k => simp [taken]
  | told s t n k p u => simp [taken]
theorem taken_es_len {m h now : Int} {l : Le} : (taken m h es l now).es.length ≤ 1 := by
  cases l with
  | ask s t n k p u =>
    unfold taken askTaken
    dsimp only
    split
    · simp
    · split
      · simp
      · split
        · simp
        · split <;> simp
  | word s t n k u =>
    unfold taken wordTaken
    dsimp only
    split
    · simp
    · split
      · simp
      · split <;> simp
  | no s t n k =>
    unfold taken noTaken
    dsimp only
    split
    · simp
    · split <;> simp
  | back s t n k =>
    unfold taken backTaken
    dsimp only
    split
    · simp
    · split <;> simp
  | told s t n k p u => simp [taken]
theorem taken_nt {m h now : Int} {l : Le} (hl : LeOk m l) : ∀ z, (taken m h es l now).nt = some z → nameOk z.n = true := by
  cases l with
  | ask s t n k p u => intro z hz; cases hz
  | word s t n k u =>
    unfold taken wordTaken
    dsimp only
    split
    · intro z hz; cases hz
    · split
      · intro z hz; cases hz
      · split
        · intro z hz; cases hz
        · exact news_name hl.2.2.2.1
  | no s t n k => intro z hz; cases hz
  | back s t n k => intro z hz; cases hz
  | told s t n k p u => intro z hz; cases hz; exact hl.2.2.2.1
end
end DL
namespace DL
open PySem PySem.Spec PyProof.Rows L2
section
variable {st : Sto} {X : PoX} {Q : PoE} {w : Wo} {n : Nat} {h k u : Int} {x p : Str} {es : List En}
theorem or_none {a b : Option Str} (h : a.or b = none) : a = none ∧ b = none := by
  cases a <;> cases b <;> first | exact ⟨rfl, rfl⟩ | cases h
end
end DL
namespace DL
open PySem PySem.Spec PyProof.Rows L2
section
variable {w : Wo} {n : Nat} {h k u : Int} {x p : Str} {es fs : List En}
theorem maxAsk_app : maxAsk es ≤ maxAsk (es ++ fs) := by
  unfold maxAsk
  rcases maxL_mem ((es.filter fun e => decide (e.kind = "ask")).map En.i2) 0 with e | e
  · rw [e]; exact (maxL_ge _ 0).1
  · refine (maxL_ge _ 0).2 _ ?_
    rw [List.filter_append, List.map_append]
    exact List.mem_append_left _ e
theorem ask_le {e : En} (he : e ∈ es) (hk : e.kind = "ask") : e.i2 ≤ maxAsk es :=
  (maxL_ge _ 0).2 _ (List.mem_map.mpr ⟨e, List.mem_filter.mpr ⟨he, by simpa using hk⟩, rfl⟩)
theorem moved_m {ls : List Le} {no : Option Nt} : (movedW w h es ls no).m = w.m := by
  unfold Wo.m movedW; simp
theorem moved_ok {ls : List Le} {no : Option Nt} (ok : WOk n w) (h0 : houseOk w.m h) (he : ∀ e ∈ es, e.ok w.m ∧ e.i4 ≤ w.now + w.term) (le : es.length ≤ 3)
    (hbk : ∀ x k, En.back x k ∈ es → k ≤ maxAsk (w.log h ++ es)) (hl : ∀ l ∈ ls, LeOk w.m l ∧ l.u ≤ w.now + w.term) (ll : ls.length ≤ 14) (hno : ∀ z, no = some z → nameOk z.n = true) : WOk (n + 1) (movedW w h es ls no) := by
  have mm : (movedW w h es ls no).m = w.m := moved_m
  have lo := ok.log h0
  have la := log_at h0
  have nt := ok.nts _ (ntl_at ok h0).2
  refine ⟨?_, ?_, ?_, ok.now, ok.term, ?_, ?_, ?_, ?_, ok.dsrt, ?_, ?_, ?_, ?_⟩
  · rw [mm]; exact ok.m1
  · rw [mm]; exact ok.m7
  · show (w.nts.set h.toNat _).length = (w.logs.set h.toNat _).length
    rw [List.length_set, List.length_set]; exact ok.nl
  · rw [mm]
    intro es' hes
    rcases List.mem_or_eq_of_mem_set hes with hm | rfl
    · have := ok.logs _ hm
      exact ⟨this.ok, by have := this.len; omega, this.bk⟩
    · refine ⟨ok_app lo.ok fun e h => (he e h).1, ?_, ?_⟩
      · have := lo.len
        rw [List.length_append]; omega
      · intro x k hb
        rcases List.mem_append.mp hb with hb | hb
        · exact Int.le_trans (lo.bk x k hb) maxAsk_app
        · exact hbk x k hb
  · intro l hml
    rcases List.mem_or_eq_of_mem_set hml with hm | rfl
    · have := ok.nts _ hm
      exact ⟨this.1, by omega⟩
    · have := keepN_len (l := w.ntl h) (no := no)
      exact ⟨keepN_ok nt.1 hno, by omega⟩
  · rw [mm]; exact ok.down
  · have := ok.dlen
    show w.down.length ≤ n + 1
    omega
  · rw [mm]
    intro l hml
    rcases List.mem_append.mp hml with hm | hm
    · exact ok.yard l hm
    · exact (hl l hm).1
  · show (w.yard ++ ls).length ≤ 14 * (n + 1)
    have := ok.ylen
    rw [List.length_append]; omega
  · intro es' hes
    rcases List.mem_or_eq_of_mem_set hes with hm | rfl
    · exact ok.til _ hm
    · intro e hem
      rcases List.mem_append.mp hem with hb | hb
      · exact ok.til _ la.2 e hb
      · exact (he e hb).2
  · intro l hml
    rcases List.mem_append.mp hml with hm | hm
    · exact ok.ytil l hm
    · exact (hl l hm).2
theorem asked_ok (ok : WOk n w) (h0 : houseOk w.m h) (hx : nameOk x = true) (hp : nameOk p = true) (hk : 1 ≤ k) : WOk (n + 1) (askedW w h x k p) := by
  have m1 := ok.m1
  have m7 := ok.m7
  have nw := ok.now
  have tm := ok.term
  have lo := ok.log h0
  unfold askedW
  dsimp only
  have hok2 : ∀ e ∈ w.log h ++ [En.ask x k p (w.now + w.term)], e.ok w.m := ok_app lo.ok (by
    intro e he
    rw [List.mem_singleton] at he
    subst he
    exact ⟨hx, hk, by omega, hp⟩)
  have hwo := ownWord_ok (es := w.log h ++ [En.ask x k p (w.now + w.term)]) (h := h) (x := x) (k := k) (u := w.now + w.term) (now := w.now) (m := w.m) hx hk h0 (by omega)
  have how := ownWord_len (es := w.log h ++ [En.ask x k p (w.now + w.term)]) (h := h) (x := x) (k := k) (u := w.now + w.term) (now := w.now)
  have hou : ∀ e ∈ ownWord (w.log h ++ [En.ask x k p (w.now + w.term)]) h x k (w.now + w.term) w.now, e.i4 ≤ w.now + w.term ∧ ∀ y j, e ≠ .back y j := by
    unfold ownWord
    split
    · intro e he
      simp at he
      rcases he with rfl | rfl <;> exact ⟨Int.le_refl _, fun _ _ z => by cases z⟩
    · split
      · split
        · intro e he; cases he
        · intro e he
          rw [List.mem_singleton.mp he]
          exact ⟨by show (0 : Int) ≤ _; omega, fun _ _ z => by cases z⟩
      · intro e he; cases he
  have hol := others_len (m := w.m) (h := h)
  have hnl := news_len (m := w.m) (h := h) (es := w.log h ++ [En.ask x k p (w.now + w.term)]) (more := ownWord (w.log h ++ [En.ask x k p (w.now + w.term)]) h x k (w.now + w.term) w.now) (x := x) (now := w.now)
  refine moved_ok ok h0 ?_ ?_ ?_ ?_ ?_ (news_name hx)
  · intro e he
    rcases List.mem_cons.mp he with rfl | he
    · exact ⟨⟨hx, hk, by omega, hp⟩, Int.le_refl _⟩
    · exact ⟨hwo e he, (hou e he).1⟩
  · simp; omega
  · intro y j hb
    rcases List.mem_cons.mp hb with hb | hb
    · cases hb
    · exact absurd rfl ((hou _ hb).2 y j)
  · intro l hl
    rcases List.mem_append.mp hl with hl | hl
    · obtain ⟨o, ho, rfl⟩ := List.mem_map.mp hl
      obtain ⟨o1, o2⟩ := others_mem ho
      exact ⟨⟨h0, o1, fun z => o2 z.symm, hx, hk, hp, by omega⟩, Int.le_refl _⟩
    · obtain ⟨a, b⟩ := news_ok (ok_app hok2 hwo) h0 hx nw l hl
      exact ⟨a, by omega⟩
  · rw [List.length_append, List.length_map]; omega
theorem back_ok (ok : WOk n w) (h0 : houseOk w.m h) (hx : nameOk x = true) {c : Cl} (hc : claimOf (w.log h) x = some c) : WOk (n + 1) (backW w h x) := by
  have m1 := ok.m1
  have m7 := ok.m7
  have nw := ok.now
  have tm := ok.term
  have lo := ok.log h0
  obtain ⟨c1, c2, c3, c4⟩ := claim_facts lo.ok hc
  have gm := greatest_le_max (es := w.log h) (x := x)
  unfold backW
  rw [hc]
  have hol := others_len (m := w.m) (h := h)
  show WOk (n + 1) (movedW w h (backEs w h x c.num) _ none)
  have hbe : ∀ e ∈ backEs w h x c.num, e = .back x c.num ∨ e = .free x h c.num := by
    unfold backEs
    intro e he
    rcases List.mem_cons.mp he with rfl | he
    · exact .inl rfl
    · split at he
      · split at he
        · exact .inr (List.mem_singleton.mp he)
        · cases he
      · cases he
  refine moved_ok ok h0 ?_ ?_ ?_ ?_ ?_ (fun z hz => by cases hz)
  · intro e he
    rcases hbe e he with rfl | rfl
    · exact ⟨⟨hx, c2⟩, by show (0 : Int) ≤ _; omega⟩
    · exact ⟨⟨hx, c2, h0.1, h0.2⟩, by show (0 : Int) ≤ _; omega⟩
  · have := backEs_len (w := w) (h := h) (x := x) (k := c.num); omega
  · intro y j hb
    have : j = c.num := by
      rcases hbe _ hb with e | e
      · cases e; rfl
      · cases e
    have := maxAsk_app (es := w.log h) (fs := backEs w h x c.num)
    omega
  · intro l hl
    obtain ⟨o, ho, rfl⟩ := List.mem_map.mp hl
    obtain ⟨o1, o2⟩ := others_mem ho
    exact ⟨⟨h0, o1, fun z => o2 z.symm, hx, c2⟩, by show (0 : Int) ≤ _; omega⟩
  · rw [List.length_map]; omega
theorem taken_facts {m h now T : Int} {l : Le} (hok : ∀ e ∈ es, e.ok m) (ht : ∀ e ∈ es, e.i4 ≤ T) (hl : LeOk m l) (hh : l.to = h) (hu : l.u ≤ T) (hn : 0 ≤ now) (hnT : now ≤ T) :
    (∀ e ∈ (taken m h es l now).es, (e.ok m ∧ e.i4 ≤ T) ∧ ∀ y j, e ≠ .back y j) ∧ (∀ l' ∈ (taken m h es l now).ls, LeOk m l' ∧ l'.u ≤ T) := by
  subst hh
  cases l with
  | ask s t n k p u =>
    obtain ⟨a1, a2, a3, a4, a5, a6, a7⟩ := hl
    have hu : u ≤ T := hu
    unfold taken askTaken
    dsimp only
    split
    · exact ⟨fun e he => (by cases he), fun e he => (by cases he)⟩
    · split
      · refine ⟨fun e he => ?_, fun e he => ?_⟩
        · rw [List.mem_singleton.mp he]
          exact ⟨⟨⟨a4, a5, a1.1, a1.2, a7⟩, hu⟩, fun _ _ z => by cases z⟩
        · rw [List.mem_singleton.mp he]
          exact ⟨⟨a2, a1, fun z => a3 z.symm, a4, a5, a7⟩, hu⟩
      · split
        · exact ⟨fun e he => (by cases he), fun e he => (by cases he)⟩
        · rename_i h' k' u' hw
          have wm := wordIn_mem hw
          split
          · refine ⟨fun e he => (by cases he), fun e he => ?_⟩
            rw [List.mem_singleton.mp he]
            exact ⟨⟨a2, a1, fun z => a3 z.symm, a4, a5, (hok _ wm).2.2.2.2⟩, ht _ wm⟩
          · refine ⟨fun e he => (by cases he), fun e he => ?_⟩
            rw [List.mem_singleton.mp he]
            exact ⟨⟨a2, a1, fun z => a3 z.symm, a4, a5⟩, by show (0 : Int) ≤ _; omega⟩
  | word s t n k u =>
    obtain ⟨a1, a2, a3, a4, a5, a6⟩ := hl
    have hu : u ≤ T := hu
    have tn : ¬ ((Le.word s t n k u).to = s) := fun z => a3 z.symm
    unfold taken wordTaken
    dsimp only
    have bk : LeOk m (.back (Le.word s t n k u).to s n k) ∧ Le.u (.back (Le.word s t n k u).to s n k) ≤ T := ⟨⟨a2, a1, tn, a4, a5⟩, by show (0 : Int) ≤ _; omega⟩
    split
    · refine ⟨fun e he => (by cases he), fun e he => ?_⟩
      rw [List.mem_singleton.mp he]
      exact bk
    · split
      · refine ⟨fun e he => (by cases he), fun e he => ?_⟩
        rw [List.mem_singleton.mp he]
        exact bk
      · split
        · exact ⟨fun e he => (by cases he), fun e he => (by cases he)⟩
        · refine ⟨fun e he => ?_, fun e he => ?_⟩
          · rw [List.mem_singleton.mp he]
            exact ⟨⟨⟨a4, a5, a1.1, a1.2, a6⟩, hu⟩, fun _ _ z => by cases z⟩
          · obtain ⟨b1, b2⟩ := news_ok (more := [.got n k s u]) (ok_app hok (by
              intro e he
              rw [List.mem_singleton.mp he]
              exact ⟨a4, a5, a1.1, a1.2, a6⟩)) a2 a4 hn e he
            exact ⟨b1, by omega⟩
  | no s t n k =>
    obtain ⟨a1, a2, a3, a4, a5⟩ := hl
    unfold taken noTaken
    dsimp only
    split
    · exact ⟨fun e he => (by cases he), fun e he => (by cases he)⟩
    · split
      · exact ⟨fun e he => (by cases he), fun e he => (by cases he)⟩
      · refine ⟨fun e he => ?_, fun e he => (by cases he)⟩
        rw [List.mem_singleton.mp he]
        exact ⟨⟨⟨a4, a5, a1.1, a1.2⟩, by show (0 : Int) ≤ _; omega⟩, fun _ _ z => by cases z⟩
  | back s t n k =>
    obtain ⟨a1, a2, a3, a4, a5⟩ := hl
    unfold taken backTaken
    dsimp only
    split
    · exact ⟨fun e he => (by cases he), fun e he => (by cases he)⟩
    · split
      · refine ⟨fun e he => ?_, fun e he => (by cases he)⟩
        rw [List.mem_singleton.mp he]
        exact ⟨⟨⟨a4, a5, a1.1, a1.2⟩, by show (0 : Int) ≤ _; omega⟩, fun _ _ z => by cases z⟩
      · exact ⟨fun e he => (by cases he), fun e he => (by cases he)⟩
  | told s t n k p u => exact ⟨fun e he => (by cases he), fun e he => (by cases he)⟩
theorem carried_ok (ok : WOk n w) (hk : 0 ≤ k) (hl : k < w.yard.length) : WOk (n + 1) (carriedW w k) := by
  obtain ⟨l, h2, h3⟩ := let_at hk hl
  have lok := ok.yard l h3
  have h0 := lok.hs.2.1
  have lo := ok.log h0
  unfold carriedW
  rw [h2]
  dsimp only
  have tm := ok.term
  have nw := ok.now
  obtain ⟨t1, t2⟩ := taken_facts (now := w.now) (T := w.now + w.term) lo.ok (ok.til _ (log_at h0).2) lok rfl (ok.ytil l h3) ok.now (by omega)
  have b1 := taken_ls_len (es := w.log l.to) (h := l.to) (now := w.now) (l := l) ok.m7
  have b2 := taken_es_len (es := w.log l.to) (h := l.to) (now := w.now) (l := l) (m := w.m)
  refine moved_ok (w := { w with yard := w.yard.eraseIdx k.toNat }) ok.erase h0 (fun e he => (t1 e he).1) (by omega) ?_ t2 (by omega) (taken_nt lok)
  intro y j hb
  exact absurd rfl ((t1 _ hb).2 y j)
theorem WOk.mono (ok : WOk n w) : WOk (n + 1) w :=
  { m1 := ok.m1, m7 := ok.m7, nl := ok.nl, now := ok.now, term := ok.term,
    logs := fun es he => ⟨(ok.logs es he).ok, by have := (ok.logs es he).len; omega, (ok.logs es he).bk⟩,
    nts := fun l hl => ⟨(ok.nts l hl).1, by have := (ok.nts l hl).2; omega⟩, down := ok.down, dlen := by have := ok.dlen; omega, dsrt := ok.dsrt,
    yard := ok.yard, ylen := by have := ok.ylen; omega, til := ok.til, ytil := ok.ytil }
theorem pw_lt {l : List Int} (h : l.Pairwise (· ≤ ·)) (nd : l.Nodup) : l.Pairwise (· < ·) :=
  (List.pairwise_and_iff.mpr ⟨h, nd⟩).imp fun {a b} hab => by have := hab.1; have := hab.2; omega
theorem behind_ok {e : De} (ok : WOk n w) (he : e.ok w.m) (hr : refusal w e = none) : WOk (n + 1) (behindW w e) := by
  unfold refusal at hr
  obtain ⟨hl, hr⟩ := or_none hr
  obtain ⟨hu, hr⟩ := or_none hr
  obtain ⟨hw, hc⟩ := or_none hr
  have stands : ∀ {h : Int} {x : Str}, standsW w h x = true → ∃ c, claimOf (w.log h) x = some c := fun {h x} hs => by
    unfold standsW at hs
    split at hs
    · cases hs
    · exact ⟨_, by assumption⟩
  have letOk : ∀ {k : Int}, (if k < (w.yard.length : Int) then (none : Option Str) else some (Str.ofString "NoLetter")) = none → k < w.yard.length := fun {k} hk => by
    split at hk
    · assumption
    · cases hk
  cases e with
  | claim h x p =>
    have mn := maxAsk_nn (es := w.log h)
    exact asked_ok ok he.1 he.2.1 he.2.2 (by omega)
  | renew h x =>
    obtain ⟨c, hcl⟩ := stands (h := h) (x := x) (by
      unfold clRef at hc
      simp only at hc
      split at hc
      · assumption
      · cases hc)
    obtain ⟨c1, c2, c3, c4⟩ := claim_facts (ok.log he.1).ok hcl
    unfold behindW
    simp only [hcl]
    exact asked_ok ok he.1 he.2 c4 c2
  | back h x =>
    obtain ⟨c, hcl⟩ := stands (h := h) (x := x) (by
      unfold clRef at hc
      simp only at hc
      split at hc
      · assumption
      · cases hc)
    exact back_ok ok he.1 he.2 hcl
  | carry k => exact carried_ok ok he (letOk hl)
  | copy k =>
    obtain ⟨l, h2, h3⟩ := let_at he (letOk hl)
    unfold behindW copyW
    simp only [h2]
    have ok1 := ok.mono
    refine { ok1 with yard := ?_, ylen := ?_, ytil := ?_ }
    · intro l' hl'
      rcases List.mem_append.mp hl' with hm | hm
      · exact ok.yard l' hm
      · rw [List.mem_singleton.mp hm]; exact ok.yard l h3
    · show (w.yard ++ [l]).length ≤ 14 * (n + 1)
      have := ok.ylen
      rw [List.length_append]; simp; omega
    · intro l' hl'
      rcases List.mem_append.mp hl' with hm | hm
      · exact ok.ytil l' hm
      · rw [List.mem_singleton.mp hm]; exact ok.ytil l h3
  | lose k => exact ok.mono.erase
  | fall h =>
    have hnd : h ∉ w.down := by
      unfold upRef at hu
      simp only at hu
      split at hu
      · cases hu
      · assumption
    have ok1 := ok.mono
    refine { ok1 with nl := ?_, nts := ?_, down := ?_, dlen := ?_, dsrt := ?_ }
    · show (w.nts.set _ _).length = w.logs.length
      rw [List.length_set]; exact ok.nl
    · intro l hl
      rcases List.mem_or_eq_of_mem_set hl with hm | rfl
      · exact ok1.nts l hm
      · exact ⟨⟨List.Pairwise.nil, fun z hz => (by cases hz)⟩, Nat.zero_le _⟩
    · intro x hx
      have := (sortI_perm (w.down ++ [h])).mem_iff.mp hx
      rcases List.mem_append.mp this with hm | hm
      · exact ok.down x hm
      · rw [List.mem_singleton.mp hm]; exact he
    · show (sortI (w.down ++ [h])).length ≤ n + 1
      rw [sortI_len, List.length_append]
      have := ok.dlen
      simp; omega
    · refine pw_lt (sortI_srt _) ((sortI_perm _).nodup_iff.mpr ?_)
      refine List.nodup_append.mpr ⟨ok.dsrt.imp fun {a b} hab => by omega, (List.pairwise_singleton _ h), ?_⟩
      intro a ha b hb e
      rw [List.mem_singleton.mp hb] at e
      exact hnd (e ▸ ha)
  | rise h =>
    have ok1 := ok.mono
    refine { ok1 with down := ?_, dlen := ?_, dsrt := ?_ }
    · intro x hx
      exact ok.down x (List.mem_filter.mp hx).1
    · have := List.length_filter_le (fun x => !decide (x = h)) w.down
      have := ok.dlen
      show (w.down.filter _).length ≤ n + 1
      omega
    · exact ok.dsrt.filter _
  | part s => exact { ok.mono with }
  | heal => exact { ok.mono with }
  | round =>
    have ok1 := ok.mono
    refine { ok1 with now := ?_, til := ?_, ytil := ?_ }
    · have := ok.now
      show 0 ≤ w.now + 1
      omega
    · intro es hes e hee
      have := ok.til es hes e hee
      show e.i4 ≤ w.now + 1 + w.term
      omega
    · intro l hl
      have := ok.ytil l hl
      show l.u ≤ w.now + 1 + w.term
      omega
theorem behind_m {e : De} : (behindW w e).m = w.m := by
  cases e with
  | claim h x p => exact moved_m
  | renew h x =>
    unfold behindW
    simp only
    split
    · rfl
    · exact moved_m
  | back h x =>
    unfold behindW backW
    simp only
    split
    · rfl
    · exact moved_m
  | carry k =>
    unfold behindW carriedW
    simp only
    split
    · rfl
    · rw [moved_m]; rfl
  | copy k =>
    unfold behindW copyW
    simp only
    split <;> rfl
  | _ => rfl
theorem behind_term {e : De} : (behindW w e).term = w.term := by
  cases e with
  | renew h x =>
    unfold behindW
    simp only
    split <;> rfl
  | back h x =>
    unfold behindW backW
    simp only
    split <;> rfl
  | carry k =>
    unfold behindW carriedW
    simp only
    split <;> rfl
  | copy k =>
    unfold behindW copyW
    simp only
    split <;> rfl
  | _ => rfl
/-- the world at its begin -/
def w0 (m t : Int) : Wo := ⟨0, t, List.replicate m.toNat [], List.replicate m.toNat [], [], [], []⟩
theorem w0_m {m t : Int} (h : 1 ≤ m) : (w0 m t).m = m := by
  unfold w0 Wo.m
  simp; omega
theorem w0_ok {m t : Int} (h1 : 1 ≤ m) (h2 : m ≤ 7) (h3 : 2 ≤ t) : WOk 0 (w0 m t) := by
  have mm := w0_m (t := t) h1
  refine ⟨by omega, by omega, ?_, by show (0 : Int) ≤ 0; omega, h3, ?_, ?_, fun h hh => (by cases hh), Nat.le_refl 0, List.Pairwise.nil, fun l hl => (by cases hl), Nat.zero_le _, ?_, fun l hl => (by cases hl)⟩
  · unfold w0; simp
  · intro es hes
    rw [(List.mem_replicate.mp hes).2]
    exact ⟨fun e he => (by cases he), Nat.le_refl 0, fun x k hb => (by cases hb)⟩
  · intro l hl
    rw [(List.mem_replicate.mp hl).2]
    exact ⟨⟨List.Pairwise.nil, fun z hz => (by cases hz)⟩, Nat.zero_le _⟩
  · intro es hes e he
    rw [(List.mem_replicate.mp hes).2] at he
    cases he
/-- no word is got for a claim that was never asked for -/
def GotOk (w : Wo) : Prop := ∀ es ∈ w.logs, ∀ x k o u, En.got x k o u ∈ es → k ≤ maxAsk es
theorem moved_got {ls : List Le} {no : Option Nt} (h0 : houseOk w.m h) (hg : GotOk w) (he : ∀ x k o u, En.got x k o u ∈ es → k ≤ maxAsk (w.log h ++ es)) : GotOk (movedW w h es ls no) := by
  intro es' hes
  have hes : es' ∈ w.logs.set h.toNat (w.log h ++ es) := hes
  rcases List.mem_or_eq_of_mem_set hes with hm | rfl
  · exact hg es' hm
  · intro x k o u hx
    rcases List.mem_append.mp hx with hx | hx
    · exact Int.le_trans (hg _ (log_at h0).2 x k o u hx) maxAsk_app
    · exact he x k o u hx
theorem asked_got (h0 : houseOk w.m h) (hg : GotOk w) : GotOk (askedW w h x k p) := by
  unfold askedW
  dsimp only
  refine moved_got h0 hg ?_
  intro y j o u' hy
  have ha : k ≤ maxAsk (w.log h ++ En.ask x k p (w.now + w.term) :: ownWord (w.log h ++ [En.ask x k p (w.now + w.term)]) h x k (w.now + w.term) w.now) :=
    ask_le (e := En.ask x k p (w.now + w.term)) (List.mem_append_right _ List.mem_cons_self) rfl
  rcases List.mem_cons.mp hy with hy | hy
  · cases hy
  · have : j = k := by
      unfold ownWord at hy
      split at hy
      · simp at hy
        exact hy.2.1
      · split at hy
        · split at hy
          · cases hy
          · have := List.mem_singleton.mp hy
            cases this
        · cases hy
    omega
theorem back_got (h0 : houseOk w.m h) (hg : GotOk w) : GotOk (backW w h x) := by
  unfold backW
  split
  · exact hg
  · rename_i c hc
    refine moved_got h0 hg ?_
    intro y j o u' hy
    rcases List.mem_cons.mp hy with hy | hy
    · cases hy
    · split at hy
      · split at hy
        · have := List.mem_singleton.mp hy
          cases this
        · cases hy
      · cases hy
theorem carried_got (ok : WOk n w) (hk : 0 ≤ k) (hl : k < w.yard.length) (hg : GotOk w) : GotOk (carriedW w k) := by
  obtain ⟨l, h2, h3⟩ := let_at hk hl
  have lok := ok.yard l h3
  have h0 := lok.hs.2.1
  have lo := ok.log h0
  unfold carriedW
  rw [h2]
  dsimp only
  refine moved_got (w := { w with yard := w.yard.eraseIdx k.toNat }) h0 hg ?_
  intro y j o u' hy
  have hy : En.got y j o u' ∈ (taken w.m l.to (w.log l.to) l w.now).es := hy
  show j ≤ maxAsk (w.log l.to ++ (taken w.m l.to (w.log l.to) l w.now).es)
  refine Int.le_trans ?_ maxAsk_app
  cases l with
  | ask s t nm k' pp u =>
    unfold taken askTaken at hy
    dsimp only at hy
    split at hy
    · cases hy
    · split at hy
      · have := List.mem_singleton.mp hy
        cases this
      · split at hy
        · cases hy
        · split at hy <;> cases hy
  | word s t nm k' u =>
    unfold taken wordTaken at hy
    dsimp only at hy
    split at hy
    · cases hy
    · rename_i c hc
      split at hy
      · cases hy
      · rename_i hne
        split at hy
        · cases hy
        · have e := List.mem_singleton.mp hy
          injection e with e1 e2 e3 e4
          have h1 := claim_facts lo.ok hc
          have h2 := greatest_le_max (es := w.log (Le.word s t nm k' u).to) (x := nm)
          have h3 : c.num = k' := Classical.not_not.mp hne
          rw [e2, ← h3, h1.1]
          exact h2
  | no s t nm k' =>
    unfold taken noTaken at hy
    dsimp only at hy
    split at hy
    · cases hy
    · split at hy
      · cases hy
      · have := List.mem_singleton.mp hy
        cases this
  | back s t nm k' =>
    unfold taken backTaken at hy
    dsimp only at hy
    split at hy
    · cases hy
    · split at hy
      · have := List.mem_singleton.mp hy
        cases this
      · cases hy
  | told s t nm k' pp u => cases hy
theorem got_behind {e : De} (ok : WOk n w) (he : e.ok w.m) (hr : refusal w e = none) (hg : GotOk w) : GotOk (behindW w e) := by
  unfold refusal at hr
  obtain ⟨hl, hr⟩ := or_none hr
  have letOk : ∀ {k : Int}, (if k < (w.yard.length : Int) then (none : Option Str) else some (Str.ofString "NoLetter")) = none → k < w.yard.length := fun {k} hk => by
    split at hk
    · assumption
    · cases hk
  cases e with
  | claim h x p => exact asked_got he.1 hg
  | renew h x =>
    unfold behindW
    simp only
    split
    · exact hg
    · exact asked_got he.1 hg
  | back h x => exact back_got he.1 hg
  | carry k => exact carried_got ok he (letOk hl) hg
  | copy k =>
    unfold behindW copyW
    simp only
    split <;> exact hg
  | lose k => exact hg
  | fall h => exact hg
  | rise h => exact hg
  | part s => exact hg
  | heal => exact hg
  | round => exact hg
theorem got0 {m t : Int} : GotOk (w0 m t) := by
  intro es hes x k o u hx
  unfold w0 at hes
  rw [(List.mem_replicate.mp hes).2] at hx
  cases hx
end
end DL
namespace DL
open PySem PySem.Spec PyProof.Rows L2
def wDictRT : WE := fun _ st _ Q => ∀ p, st p = none → Q (.ref p) (st.set p (.dt []))
@[simp] theorem wDictRT_ap {e : Env} {st : Sto} {X : PoX} {Q : PoE} : wDictRT e st X Q = ∀ p, st p = none → Q (.ref p) (st.set p (.dt [])) := id rfl
end DL
namespace L2
open PySem PySem.Spec PyProof.Rows PySem.Calls PySem.W HT
end L2
namespace DL
open PySem PySem.Spec PyProof.Rows L2
def dRevT (_ : Sto) : D → Option D
  | .tup ds => some (.tup ds.reverse)
  | _ => none
@[simp] theorem dRevT_tup {st : Sto} {ds : List D} : dRevT st (.tup ds) = some (.tup ds.reverse) := id rfl
end DL
namespace DL
open PySem PySem.Spec PyProof.Rows L2
def F__law_mixed : WF := wDef 3 2 true (wSeq (wSet 2 (wBin dMod (wBin dMul (wBin dAdd (wBin dAdd (wBin dMod (wVar 0) (wC (.int 2147483647))) (wBin dMul (wC (.int 7919)) (wVar 1))) (wC (.int 1))) (wC (.int 48271))) (wC (.int 2147483647)))) (wSeq (wSet 2 (wBin dMod (wBin dMul (wVar 2) (wVar 2)) (wC (.int 2147483629)))) (wRet (wBin dFdiv (wBin dMod (wBin dMul (wBin dAdd (wVar 2) (wBin dMul (wC (.int 40692)) (wBin dAdd (wVar 1) (wC (.int 3))))) (wC (.int 69621))) (wC (.int 2147483579))) (wC (.int 8))))))
def F__law_pot : WF := wDef 1 1 false (wRet (wLstR (wCons (wBin dMul (wBin dMod (wVar 0) (wC (.int 100000000000000000000000000000000000000000000000000000000000000000000000000000000000000000000000000000000000000000000000000000000000000000000000000000000000000000000000000000000000000000000000000000000))) (wCall cInt (wCons (wBin dGe (wVar 0) (wC (.int 1000000000000000000))) wNil))) (wCons (wVar 0) (wCons (wC (.int 0)) wNil)))))
def F__law_pull : WF := wDef 3 2 true (wSeq (wPut (wVar 0) (wC (.int 2)) (wBin dAdd (wBin ixD (wVar 0) (wC (.int 2))) (wC (.int 1)))) (wSeq (wIfS (wTB (wBin dGt (wBin ixD (wVar 0) (wC (.int 0))) (wC (.int 0)))) (wSeq (wSet 2 (wBin dMod (wBin ixD (wVar 0) (wC (.int 0))) (wVar 1))) (wSeq (wPut (wVar 0) (wC (.int 0)) (wBin dFdiv (wBin ixD (wVar 0) (wC (.int 0))) (wVar 1))) (wRet (wVar 2)))) wSkip) (wRet (wBin dMod (wFn F__law_mixed (wCons (wBin ixD (wVar 0) (wC (.int 1))) (wCons (wBin ixD (wVar 0) (wC (.int 2))) wNil))) (wVar 1)))))
def PotOk (b : Nat) (r : List D) : Prop := ∃ x c k : Int, r = [.int x, .int c, .int k] ∧ 0 ≤ x ∧ 0 ≤ k ∧ k ≤ b
theorem PotOk.mono {b b' : Nat} {r : List D} (h : PotOk b r) (hb : b ≤ b') : PotOk b' r := by
  obtain ⟨x, c, k, e, h1, h2, h3⟩ := h
  exact ⟨x, c, k, e, h1, h2, by omega⟩
section
variable {st : Sto} {X : PoX} {Q : PoE} {a : Addr} {r : List D} {b : Nat} {m c k : Int}
theorem ap_mixed (h0 : 0 ≤ k) (h1 : k ≤ 10 ^ 20) (h : ∀ n, 0 ≤ n → Q (.int n) st) : F__law_mixed [.int c, .int k] st X Q := by
  simp only [F__law_mixed, wDef_ap]
  refine ⟨rfl, ?_⟩
  have e1 := emod_b c (k := 2147483647) (by decide)
  have m1 : Mid k := ⟨by omega, by omega⟩
  rw [wSeq_ap]
  simp (disch := first | omega | decide +kernel) [-wSeq_ap, dMod_int, dMul_int, m1]
  have e2 := emod_b ((c % 2147483647 + 7919 * k + 1) * 48271) (k := 2147483647) (by decide)
  generalize (c % 2147483647 + 7919 * k + 1) * 48271 % 2147483647 = y at *
  have m3 : Mid y := ⟨by omega, by omega⟩
  rw [wSeq_ap]
  simp (disch := first | omega | decide +kernel) [-wSeq_ap]
  rw [dMul_int m3 m3]
  simp (disch := first | omega | decide +kernel) [-wSeq_ap, dMod_int]
  have e3 := emod_b (y * y) (k := 2147483629) (by decide)
  generalize y * y % 2147483629 = z at *
  simp (disch := first | omega | decide +kernel) [-wSeq_ap, dMul_int, dFdiv_int, dMod_int]
  exact h _ (Int.ediv_nonneg (emod_b _ (by decide)).1 (by decide))
theorem ap_pull (hr : st a = some (.lst r)) (ok : PotOk b r) (hb : b ≤ 10 ^ 15) (h1 : 0 < m) (h2 : m ≤ 10 ^ 20) (h : ∀ n r', 0 ≤ n → n < m → PotOk (b + 1) r' → Q (.int n) (st.set a (.lst r'))) : F__law_pull [.ref a, .int m] st X Q := by
  obtain ⟨x, c, k, rfl, x0, k0, k1⟩ := ok
  have sm : (st a).isSome = true := by rw [hr]; rfl
  simp only [F__law_pull, wDef_ap]
  refine ⟨rfl, ?_⟩
  rw [wSeq_ap]
  simp (disch := first | omega | decide +kernel) [-wSeq_ap, ixD_ref hr]
  rw [putD_lst hr (ds' := [.int x, .int c, .int (k + 1)]) rfl, on_some]
  have e : (st.set a (.lst [.int x, .int c, .int (k + 1)])) a = some (.lst [.int x, .int c, .int (k + 1)]) := Sto.set_same
  rw [wSeq_ap]
  simp (disch := first | omega | decide +kernel) [-wSeq_ap, ixD_ref e]
  by_cases hf : 0 < x
  · simp [hf, -wSeq_ap]
    rw [wSeq_ap]
    simp (disch := first | omega | decide +kernel) [-wSeq_ap, ixD_ref e, dMod_int]
    rw [wSeq_ap]
    simp (disch := first | omega | decide +kernel) [-wSeq_ap, ixD_ref e, dFdiv_int]
    rw [putD_lst e (ds' := [.int (x / m), .int c, .int (k + 1)]) rfl, on_some]
    simp [Sto.keepOnly_set sm]
    exact h _ _ (emod_b x h1).1 (emod_b x h1).2 ⟨_, _, _, rfl, Int.ediv_nonneg x0 (by omega), by omega, by omega⟩
  · simp [hf, -wSeq_ap, ixD_ref e]
    refine ap_mixed (by omega) (by omega) (fun n hn => ?_)
    simp (disch := first | omega | decide +kernel) [dMod_int, Sto.keepOnly_set sm]
    exact h _ _ (emod_b n h1).1 (emod_b n h1).2 ⟨_, _, _, rfl, x0, by omega, by omega⟩
def potN : Int := 10 ^ 200
theorem potN_pos : 0 < potN := by decide +kernel
set_option exponentiation.threshold 1000 in
theorem potN_hi : potN < 2 ^ 700 := by decide +kernel
set_option exponentiation.threshold 1000 in
theorem dMul_pot {y j : Int} (h0 : 0 ≤ y) (h1 : y < potN) (hj : j = 0 ∨ j = 1) : dMul st (.int y) (.int j) = some (.int (y * j)) := by
  show (if CMulW y j then _ else _) = _
  rw [if_pos]
  have l1 : y.natAbs.log2 ≤ 700 := by
    have h2 : y.natAbs < 2 ^ 700 := by
      have h3 := Int.lt_trans h1 potN_hi
      have h4 : ((y.natAbs : Nat) : Int) < ((2 ^ 700 : Nat) : Int) := by
        rw [Int.natAbs_of_nonneg h0, Int.natCast_pow]
        exact h3
      exact Int.ofNat_lt.mp h4
    by_cases hz : y.natAbs = 0
    · rw [hz]; decide
    · exact Nat.le_of_lt ((Nat.log2_lt hz).mpr h2)
  have l2 : j.natAbs.log2 = 0 := by rcases hj with rfl | rfl <;> decide
  unfold CMulW
  omega
theorem ap_pot (h : ∀ p r, st p = none → PotOk 0 r → Q (.ref p) (st.set p (.lst r))) : F__law_pot [.int c] st X Q := by
  simp only [F__law_pot, wDef_ap]
  refine ⟨rfl, ?_⟩
  have e1 := emod_b c potN_pos
  rw [show (100000000000000000000000000000000000000000000000000000000000000000000000000000000000000000000000000000000000000000000000000000000000000000000000000000000000000000000000000000000000000000000000000000000 : Int) = potN by decide +kernel]
  have hp := potN_pos
  simp (disch := omega) [dMod_int]
  rw [dMul_pot e1.1 e1.2 (by split <;> simp), on_some]
  intro p hp
  refine h p _ hp ⟨_, _, _, rfl, ?_, Int.le_refl _, Int.le_refl _⟩
  split
  · rw [Int.mul_one]; exact e1.1
  · rw [Int.mul_zero]; exact Int.le_refl _
/-- a text by its letters -/
def txt (cs : List Nat) : Str := ⟨cs.toArray⟩
def low (c : Nat) : Prop := 97 ≤ c ∧ c ≤ 122
theorem nameOk_txt {cs : List Nat} (h1 : 1 ≤ cs.length) (h2 : cs.length ≤ 8) (h3 : ∀ c ∈ cs, low c) : nameOk (txt cs) = true := by
  unfold nameOk txt
  simp only [Bool.and_eq_true, decide_eq_true_iff]
  refine ⟨⟨?_, ?_⟩, ?_⟩
  · show 1 ≤ cs.toArray.size
    simpa using h1
  · show cs.toArray.size ≤ 8
    simpa using h2
  · simpa [low] using h3
theorem low_at : ∀ j < 26, (Str.ofString "abcdefghijklmnopqrstuvwxyz").cps.toList[j]? = some (97 + j) := by decide +kernel
theorem letter_at {i : Int} (h0 : 0 ≤ i) (h1 : i < 26) : ∃ c, low c ∧ ixD st (.str (Str.ofString "abcdefghijklmnopqrstuvwxyz")) (.int i) = some (.str (txt [c])) := by
  refine ⟨97 + i.toNat, ⟨by omega, by omega⟩, ?_⟩
  have hl : (Str.ofString "abcdefghijklmnopqrstuvwxyz").length ≤ sizeLine := by
    rw [show (Str.ofString "abcdefghijklmnopqrstuvwxyz").length = 26 by decide +kernel, sizeLine_eq]; omega
  show (if (Str.ofString "abcdefghijklmnopqrstuvwxyz").length ≤ sizeLine then (atI (Str.ofString "abcdefghijklmnopqrstuvwxyz").cps.toList i).map (fun c => D.str ⟨#[c]⟩) else none) = _
  rw [if_pos hl]
  have e : i = ((i.toNat : Nat) : Int) := by omega
  rw [e, atI_N, low_at _ (by omega)]
  rfl
theorem join_txt : ∀ {cs : List Nat}, (Txt.join (Str.ofString "") (cs.map fun c => txt [c])) = txt cs := by
  intro cs
  rw [show Txt.join (Str.ofString "") (cs.map fun c => txt [c]) = Str.join (Str.ofString "") (cs.map fun c => txt [c]) from TL.join_eq _ _]
  induction cs with
  | nil => rfl
  | cons c r ih =>
    cases r with
    | nil => rfl
    | cons d r =>
      show txt [c] ++ Str.ofString "" ++ Str.join (Str.ofString "") ((d :: r).map fun c => txt [c]) = _
      rw [ih]
      show Str.append (Str.append (txt [c]) (Str.ofString "")) (txt (d :: r)) = _
      unfold Str.append txt
      rw [show (Str.ofString "").cps = #[] by decide +kernel]
      simp
theorem sum_one : ∀ cs : List Nat, ((cs.map fun c => txt [c]).map (·.length)).sum = cs.length
  | [] => rfl
  | c :: r => by
    rw [List.map_cons, List.map_cons, List.sum_cons, sum_one r, List.length_cons]
    show 1 + r.length = _
    omega
theorem mJoin_txt {cs : List Nat} (h : cs.length ≤ 10000) : mJoin st (.str (Str.ofString "")) [.lst (cs.map fun c => .str (txt [c]))] = some (.str (txt cs), st) := by
  have e : (cs.map fun c => D.str (txt [c])) = (cs.map fun c => txt [c]).map D.str := by rw [List.map_map]; rfl
  unfold mJoin
  simp only
  rw [e, sqOf_lst, Option.bind_some, strsOf_map, Option.bind_some, sum_one, if_pos, join_txt]
  rw [show (Str.ofString "").length = 0 by decide +kernel]
  omega
theorem txt_len {cs : List Nat} : (txt cs).length = cs.length := by
  show cs.toArray.size = _
  simp
theorem txt_list {cs : List Nat} : (txt cs).cps.toList = cs := by
  show cs.toArray.toList = _
  simp
theorem ixD_txt {cs : List Nat} {i : Int} (h0 : 0 ≤ i) (h1 : i < cs.length) (hz : cs.length ≤ 10000) : ∃ c ∈ cs, ixD st (.str (txt cs)) (.int i) = some (.str (txt [c])) := by
  have sz := sizeLine_eq
  have h2 : i.toNat < cs.length := by omega
  refine ⟨cs[i.toNat], List.getElem_mem h2, ?_⟩
  show (if (txt cs).length ≤ sizeLine then (atI (txt cs).cps.toList i).map (fun c => D.str ⟨#[c]⟩) else none) = _
  rw [if_pos (by rw [txt_len]; omega), txt_list]
  have e : atI cs i = some cs[i.toNat] := by
    rw [← List.getElem?_eq_getElem h2, ← atI_N, show ((i.toNat : Nat) : Int) = i by omega]
  rw [e]
  rfl
theorem putT_len {α : Type} {kvs : List (Str × α)} {x : Str} {v : α} : kvs.length ≤ (putT kvs x v).length ∧ (putT kvs x v).length ≤ kvs.length + 1 ∧ 1 ≤ (putT kvs x v).length := by
  have e := congrArg List.length (putT_keys (kvs := kvs) (k := x) (v := v))
  rw [List.length_map] at e
  by_cases h : x ∈ kvs.map (·.1)
  · rw [if_pos h, List.length_map] at e
    have : 1 ≤ kvs.length := by
      cases kvs with
      | nil => cases h
      | cons q r => simp
    omega
  · rw [if_neg h, List.length_append, List.length_map] at e
    simp at e
    omega
end
end DL
namespace DL
open PySem PySem.Spec PyProof.Rows L2
section
variable {st : Sto} {X : PoX} {Q : PoE} {a : Addr} {r : List D} {b n : Nat} {m c k : Int} {w : Wo}
theorem rangeI_lt {i j : Int} : (rangeI i j).Pairwise (· < ·) := by
  unfold rangeI
  rw [List.pairwise_map]
  refine List.pairwise_lt_range.imp fun {x y} h => by omega
theorem atI_str {L : List Str} {i : Int} (h0 : 0 ≤ i) (h1 : i < L.length) : ∃ x ∈ L, atI (L.map D.str) i = some (.str x) := by
  have h2 : i.toNat < L.length := by omega
  refine ⟨L[i.toNat], List.getElem_mem h2, ?_⟩
  have e : atI (L.map D.str) i = (L[i.toNat]?).map D.str := by
    rw [← List.getElem?_map, ← atI_N, show ((i.toNat : Nat) : Int) = i by omega]
  rw [e, List.getElem?_eq_getElem h2]; rfl
end
end DL
namespace DL
open PySem PySem.Spec PyProof.Rows L2
section
variable {st : Sto} {X : PoX} {Q : PoE} {a : Addr} {r : List D} {b n : Nat} {m c k t : Int} {w : Wo}
theorem asked_yard {h : Int} {x p : Str} (m7 : w.m ≤ 7) : (askedW w h x k p).yard.length ≤ w.yard.length + 14 := by
  have hol := others_len (m := w.m) (h := h)
  have hnl := news_len (m := w.m) (h := h) (es := w.log h ++ [En.ask x k p (w.now + w.term)]) (more := ownWord (w.log h ++ [En.ask x k p (w.now + w.term)]) h x k (w.now + w.term) w.now) (x := x) (now := w.now)
  unfold askedW movedW
  dsimp only
  rw [List.length_append, List.length_append, List.length_map]
  omega
theorem behind_yard {e : De} (m7 : w.m ≤ 7) : (behindW w e).yard.length ≤ w.yard.length + 14 := by
  cases e with
  | claim h x p => exact asked_yard m7
  | renew h x =>
    unfold behindW
    simp only
    split
    · omega
    · exact asked_yard m7
  | back h x =>
    have hol := others_len (m := w.m) (h := h)
    unfold behindW backW
    simp only
    split
    · omega
    · unfold movedW
      dsimp only
      rw [List.length_append, List.length_map]
      omega
  | carry k =>
    unfold behindW carriedW
    simp only
    split
    · omega
    · rename_i l hl
      have := taken_ls_len (es := w.log l.to) (h := l.to) (now := w.now) (l := l) m7
      have := List.length_eraseIdx_le w.yard k.toNat
      unfold movedW
      dsimp only
      rw [List.length_append]
      omega
  | copy k =>
    unfold behindW copyW
    simp only
    split
    · omega
    · dsimp only
      rw [List.length_append]
      simp
  | lose k =>
    have := List.length_eraseIdx_le w.yard k.toNat
    show (w.yard.eraseIdx k.toNat).length ≤ _
    omega
  | fall h => show w.yard.length ≤ _; omega
  | rise h => show w.yard.length ≤ _; omega
  | part s => show w.yard.length ≤ _; omega
  | heal => show w.yard.length ≤ _; omega
  | round => show w.yard.length ≤ _; omega
/-- what a run leaves -/
structure RunOk (n : Nat) (m t : Int) (w : Wo) : Prop where
  ok : WOk n w
  hm : w.m = m
  ht : w.term = t
  hy : w.yard.length ≤ 134
  got : GotOk w
theorem RunOk.step {e : De} (h : RunOk n m t w) (he : e.ok w.m) (hr : refusal w e = none) (hc : w.yard.length > 120 → ∃ k, e = .lose k) : RunOk (n + 1) m t (behindW w e) := by
  refine ⟨behind_ok h.ok he hr, by rw [behind_m]; exact h.hm, by rw [behind_term]; exact h.ht, ?_, got_behind h.ok he hr h.got⟩
  by_cases hy : w.yard.length > 120
  · obtain ⟨k, rfl⟩ := hc hy
    have := List.length_eraseIdx_le w.yard k.toNat
    have := h.hy
    show (w.yard.eraseIdx k.toNat).length ≤ _
    omega
  · have := behind_yard (w := w) (e := e) h.ok.m7
    omega
theorem RunOk.mono (h : RunOk n m t w) {n' : Nat} (hn : n ≤ n') : RunOk n' m t w := by
  obtain ⟨j, rfl⟩ : ∃ j, n' = n + j := ⟨n' - n, by omega⟩
  induction j with
  | zero => exact h
  | succ j ih => exact ⟨(ih (by omega)).ok.mono, h.hm, h.ht, h.hy, h.got⟩
end
end DL
namespace DL
open PySem PySem.Spec PyProof.Rows L2
section
variable {st : Sto} {X : PoX} {Q : PoE}
theorem four_at {a b c d : D} {i : Int} (h0 : 0 ≤ i) (h1 : i < 4) : ∃ z, (z = a ∨ z = b ∨ z = c ∨ z = d) ∧ atI [a, b, c, d] i = some z := by
  have : i = 0 ∨ i = 1 ∨ i = 2 ∨ i = 3 := by omega
  rcases this with rfl | rfl | rfl | rfl
  · exact ⟨_, .inl rfl, rfl⟩
  · exact ⟨_, .inr (.inl rfl), rfl⟩
  · exact ⟨_, .inr (.inr (.inl rfl)), rfl⟩
  · exact ⟨_, .inr (.inr (.inr rfl)), rfl⟩
theorem two_at {a b : D} {i : Int} (h0 : 0 ≤ i) (h1 : i < 2) : ∃ z, (z = a ∨ z = b) ∧ atI [a, b] i = some z := by
  have : i = 0 ∨ i = 1 := by omega
  rcases this with rfl | rfl
  · exact ⟨_, .inl rfl, rfl⟩
  · exact ⟨_, .inr rfl, rfl⟩
end
end DL
namespace DL
open PySem PySem.Spec PyProof.Rows L2
def weight : Le → Nat
  | .ask .. => 8 | .word .. => 7 | _ => 1
end DL
namespace PySem
open Sem (wp)
open AutoSeq1 (wpAny_loadPart')
end PySem
namespace L2
open PySem PySem.Spec PyProof.Rows PySem.Calls
end L2
namespace DL
open PySem PySem.Spec PyProof.Rows L2
def wiEnumT (m : WA) : WI := fun e st X Q => m e st X fun as st1 => on (match as with | [d] => tpOf d | _ => none) fun ds => Q (enumL 0 ds) (fun _ => True) st1
@[simp] theorem wiEnumT_ap {m : WA} {e : Env} {st : Sto} {X : PoX} {QI : List D → (Sto → Prop) → Sto → Prop} : wiEnumT m e st X QI = m e st X fun as st1 => on (match as with | [d] => tpOf d | _ => none) fun ds => QI (enumL 0 ds) (fun _ => True) st1 := id rfl
end DL
namespace DL
open PySem PySem.Spec PyProof.Rows L2
end DL
namespace DL
open PySem PySem.Spec PyProof.Rows L2
end DL
namespace DL
open PySem PySem.Spec PyProof.Rows L2
end DL
namespace DL
open PySem PySem.Spec PyProof.Rows L2
section
variable {st : Sto} {X : PoX} {Q : PoE}
def nmB : D → Bool
  | .str x => nameOk x
  | _ => false
def isS : D → Bool
  | .str _ => true
  | _ => false
theorem ty_isS {d : D} {t : String} (h : tyNm st d = some t) : decide (t = "str") = isS d := by
  cases d with
  | ref a =>
    unfold tyNm at h
    simp only at h
    split at h <;> cases h <;> rfl
  | non => cases h; rfl
  | bl b => cases h; rfl
  | int i => cases h; rfl
  | str x => cases h; rfl
  | tup ds => cases h; rfl
  | kt ds => cases h; rfl
  | lst ds => cases h; rfl
  | kl ds => cases h; rfl
  | ty n => cases h
  | exc x => cases h
  | cls x => cases h
theorem letters_of : ∀ c ∈ (Str.ofString "abcdefghijklmnopqrstuvwxyz").cps.toList, 97 ≤ c ∧ c ≤ 122 := by decide +kernel
theorem ap_is_nameD {d : D} (hk : Kn st d) (hz : ∀ x, d = .str x → x.length ≤ 10000) (hq : Q (.bl (nmB d)) st) : F_is_name [d] st X Q := by
  obtain ⟨t, ht⟩ := hk
  have e := ty_isS ht
  simp only [F_is_name, wDef_ap]
  refine ⟨rfl, ?_⟩
  rw [wSeq_ap]
  simp [-wSeq_ap, ht]
  by_cases hs : isS d = true
  · cases d with
    | str x =>
      have hz := hz x rfl
      have h4 : x.length ≤ sizeLine := by rw [sizeLine_eq]; omega
      cases ht
      simp [-wSeq_ap]
      rw [cLen_str h4]
      simp [-wSeq_ap]
      have hq : Q (.bl (nameOk x)) st := hq
      unfold nameOk at hq
      by_cases h1 : (1 : Int) ≤ x.length
      · rw [if_pos h1]
        by_cases h2 : (x.length : Int) ≤ 8
        · rw [if_pos h2, if_pos h4, on_some]
          have h1' : 1 ≤ x.length := by omega
          have h2' : x.length ≤ 8 := by omega
          refine compL_imp (enc := fun c => D.str ⟨#[c]⟩) (fun c => [some (.str x), some (D.str ⟨#[c]⟩)]) (fun c => !decide (c ∈ (Str.ofString "abcdefghijklmnopqrstuvwxyz").cps.toList)) (fun c => D.str ⟨#[c]⟩) ?_ ?_ ?_ trivial ?_
          · simp
          · intro c hc Q hq
            have h8 : dNotIn st (.str ⟨#[c]⟩) (.str (Str.ofString "abcdefghijklmnopqrstuvwxyz")) = some (.bl (!decide (c ∈ (Str.ofString "abcdefghijklmnopqrstuvwxyz").cps.toList))) := rfl
            simp [h8]
            simpa using hq
          · intro c hc _ Q hq
            simpa using hq
          · rw [List.nil_append, dEq_lnil (plL_map fun _ _ => pl_str), on_some]
            have e9 : ((x.cps.toList.filter fun c => !decide (c ∈ (Str.ofString "abcdefghijklmnopqrstuvwxyz").cps.toList)).map fun c => D.str ⟨#[c]⟩).isEmpty = x.cps.toList.all fun c => decide (97 ≤ c) && decide (c ≤ 122) := by
              rw [Bool.eq_iff_iff, List.isEmpty_iff, List.map_eq_nil_iff, List.filter_eq_nil_iff, List.all_eq_true]
              refine forall_congr' fun c => imp_congr_right fun hc => ?_
              simp only [Bool.not_eq_true', decide_eq_false_iff_not, Decidable.not_not, Bool.and_eq_true, decide_eq_true_iff]
              exact ⟨letters_of c, fun h => letters_mem h.1 h.2⟩
            rw [e9, Sto.keepOnly_self]
            simpa [h1', h2'] using hq
        · rw [if_neg h2]
          have : decide (x.length ≤ 8) = false := decide_eq_false (by omega)
          rw [this] at hq
          simpa using hq
      · rw [if_neg h1]
        have : decide (1 ≤ x.length) = false := decide_eq_false (by omega)
        rw [this] at hq
        simpa using hq
    | _ => cases hs
  · have hne : ¬ t = "str" := fun z => hs (by rw [← e]; exact decide_eq_true z)
    rw [if_neg hne]
    have : nmB d = false := by
      cases d <;> first | rfl | exact absurd rfl hs
    rw [this] at hq
    simpa using hq
def hsB (m : Int) : D → Bool
  | .int h => decide (0 ≤ h) && decide (h < m)
  | _ => false
theorem ap_is_houseD {d : D} {m : Int} (hk : Kn st d) (hq : Q (.bl (hsB m d)) st) : F_is_house [.int m, d] st X Q := by
  simp only [F_is_house, wDef_ap]
  refine ⟨rfl, ?_⟩
  simp
  refine ap_is_wholeD hk ?_
  cases d with
  | int h =>
    simp [isI]
    have hq : Q (.bl (decide (0 ≤ h) && decide (h < m))) st := hq
    by_cases h0 : 0 ≤ h
    · rw [if_pos h0]
      simpa [h0] using hq
    · rw [if_neg h0]
      simpa [h0] using hq
  | _ => simpa [isI, hsB] using hq
end
end DL
namespace DL
open PySem PySem.Spec PyProof.Rows L2
section
variable {w : Wo} {n : Nat} {h k u : Int} {x p : Str} {es fs : List En}
theorem ents_app {kind : String} : entsOf (es ++ fs) kind x = entsOf es kind x ++ entsOf fs kind x := by
  unfold entsOf
  rw [List.filter_append]
theorem ents_noask (hn : ∀ e ∈ fs, e.kind ≠ "ask") : entsOf fs "ask" x = [] := by
  refine List.filter_eq_nil_iff.mpr fun e he => ?_
  have := hn e he
  simp [this]
end
end DL
namespace DL
open PySem PySem.Spec PyProof.Rows L2
end DL
namespace DL
open PySem PySem.Spec PyProof.Rows L2
def dkInts (st : Sto) : D → Option (Addr × List (L2.Key × D) × List Int)
  | .ref a => match st a with
    | some (.dk kvs) => if kvs.length ≤ sizeLine then (intsOf (kvs.map (·.2))).map fun ns => (a, kvs, ns) else none
    | _ => none
  | _ => none
def wCompV (i : Nat) (t : Tg) (test : WT) (elt : WE) (vs : List Nat) : WE := fun e st X Q => on (slot e i) fun d => on (dkInts st d) fun p =>
  wCompL t test elt (fun _ => True) (fgt vs e) (fun acc st2 => st2 p.1 = none ∧ Q (.lst acc) (st2.set p.1 (.dk p.2.1))) (p.2.2.map .int) [] (st.del p.1)
@[simp] theorem wCompV_ap {i : Nat} {t : Tg} {test : WT} {elt : WE} {vs : List Nat} {e : Env} {st : Sto} {X : PoX} {Q : PoE} : wCompV i t test elt vs e st X Q = on (slot e i) fun d => on (dkInts st d) fun p =>
  wCompL t test elt (fun _ => True) (fgt vs e) (fun acc st2 => st2 p.1 = none ∧ Q (.lst acc) (st2.set p.1 (.dk p.2.1))) (p.2.2.map .int) [] (st.del p.1) := id rfl
end DL
namespace DL
open PySem PySem.Spec PyProof.Rows L2
end DL
namespace DL
open PySem PySem.Spec PyProof.Rows L2
section
variable {w : Wo} {n : Nat} {h k u T : Int} {x p : Str} {es fs : List En}
/-- nothing of a world reaches above a round -/
structure TilTo (T : Int) (w : Wo) : Prop where
  logs : ∀ es ∈ w.logs, ∀ e ∈ es, e.i4 ≤ T
  yard : ∀ l ∈ w.yard, l.u ≤ T
end
end DL
namespace DL
open PySem PySem.Spec PyProof.Rows L2
section
variable {w : Wo} {n : Nat} {h k u T m : Int} {x p : Str} {es fs : List En}
/-- a claim of a log stands with entries behind it that ask and give back nothing -/
theorem claim_more {c : Cl} (hc : claimOf es x = some c) (hf : ∀ e ∈ fs, e.kind ≠ "ask" ∧ ∀ y j, e ≠ .back y j) : ∃ c', claimOf (es ++ fs) x = some c' ∧ c'.num = c.num ∧ c'.per = c.per := by
  have hna : entsOf fs "ask" x = [] := ents_noask fun e he => (hf e he).1
  have e2 : greatest (es ++ fs) x = greatest es x := by
    unfold greatest askedNums
    rw [ents_app, hna, List.append_nil]
  have e3 : ∀ j, ats (es ++ fs) "ask" x j = ats es "ask" x j := fun j => by
    unfold ats
    rw [ents_app, hna, List.append_nil]
  unfold claimOf at hc
  simp only at hc
  split at hc
  · cases hc
  · rename_i hn
    injection hc with hc
    subst hc
    have hn2 : ¬ (greatest es x = 0 ∨ En.back x (greatest es x) ∈ es ++ fs) := by
      rintro (z | z)
      · exact hn (.inl z)
      · rcases List.mem_append.mp z with z | z
        · exact hn (.inr z)
        · exact (hf _ z).2 _ _ rfl
    cases hc2 : claimOf (es ++ fs) x with
    | none =>
      unfold claimOf at hc2
      simp only [e2] at hc2
      rw [if_neg hn2] at hc2
      cases hc2
    | some c' =>
      unfold claimOf at hc2
      simp only [e2, e3] at hc2
      rw [if_neg hn2] at hc2
      injection hc2 with hc2
      subst hc2
      exact ⟨_, rfl, rfl, rfl⟩
end
end DL
namespace DL
open PySem PySem.Spec PyProof.Rows L2
end DL
namespace DL
open PySem PySem.Spec PyProof.Rows L2
section
variable {st : Sto} {X : PoX} {Q : PoE} {w : Wo} {n : Nat} {h k u T m : Int} {x p : Str} {es : List En}
def holdFrom (m now : Int) (x : Str) : Nat → List (List En) → Option (Int × Int × Str)
  | _, [] => none
  | i, es :: r => match claimOf es x with
    | none => holdFrom m now x (i + 1) r
    | some c => if reachI (c.words.map (·.2)) m > now then some (i, c.num, c.per) else holdFrom m now x (i + 1) r
/-- who has a name -/
def holdW (w : Wo) (x : Str) : Option (Int × Int × Str) := holdFrom w.m w.now x 0 w.logs
/-- no claim of a log reaches above a round -/
def Low (T : Int) (x : Str) (es : List En) : Prop := ∀ e ∈ es, e.kind = "got" → e.name = x → e.i4 ≤ T
end
end DL
namespace DL
open PySem PySem.Spec PyProof.Rows L2
section
variable {w : Wo} {n : Nat} {h k u T m : Int} {x p : Str} {es fs : List En} {S : List Int}
theorem TilTo.low (ht : TilTo T w) (h0 : houseOk w.m h) : Low T x (w.log h) := fun e he _ _ => ht.logs _ (log_at h0).2 e he
end
end DL
namespace DL
open PySem PySem.Spec PyProof.Rows L2
end DL
namespace DL
open PySem PySem.Spec PyProof.Rows L2
section
variable {w : Wo} {n : Nat} {h k u T m o : Int} {x p : Str} {es fs : List En} {S : List Int}
theorem maxAsk_ask (hk : maxAsk es < k) : maxAsk (es ++ [.ask x k p u]) = k := by
  have e : maxAsk (es ++ [En.ask x k p u]) = maxL 0 (((es.filter fun e => decide (e.kind = "ask")).map En.i2) ++ [k]) := by
    unfold maxAsk
    rw [List.filter_append, List.map_append]
    rfl
  rw [e, maxL_snoc]
  exact if_pos hk
end
end DL
namespace DL
open PySem PySem.Spec PyProof.Rows L2
section
variable {m t now h u t0 : Int} {x p : Str} {f : Int → List En} {g : Int → List Nt} {ys : List Le}
def upd {α : Type} (f : Int → α) (h : Int) (v : α) : Int → α := fun o => if o = h then v else f o
theorem upd_same {α : Type} {f : Int → α} {v : α} : upd f h v h = v := if_pos rfl
theorem upd_ne {α : Type} {f : Int → α} {v : α} {o : Int} (e : o ≠ h) : upd f h v o = f o := if_neg e
/-- the first letters carried, one by one -/
inductive Carr : Nat → Wo → Wo → Prop where
  | nil {w : Wo} : Carr 0 w w
  | cons {j : Nat} {w v : Wo} {l : Le} {r : List Le} (e : w.yard = l :: r) (h : Carr j (carriedW w 0) v) : Carr (j + 1) w v
theorem Carr.trans {i j : Nat} {w v z : Wo} (h1 : Carr i w v) (h2 : Carr j v z) : Carr (i + j) w z := by
  induction h1 with
  | nil => simpa using h2
  | cons e _ ih => rw [show ∀ a b : Nat, a + 1 + b = a + b + 1 by intros; omega]; exact .cons e (ih h2)
end
end DL
namespace DL
open PySem PySem.Spec PyProof.Rows L2
section
variable {m t now h u t0 : Int} {x p : Str} {f : Int → List En} {g : Int → List Nt} {ys : List Le} {es : List En} {P : List Int} {kvs : List (Int × Int)}
/-- the words of a claim: of the houses of P till u, of others till t0 -/
structure KV (m now u t0 : Int) (P : List Int) (kvs : List (Int × Int)) : Prop where
  ks : ∃ ks : List Int, ks.Nodup ∧ (∀ o ∈ P, o ∈ ks) ∧ (kvs = ks.map fun o => (o, if o ∈ P then u else t0)) ∧ (t0 ≤ now ∨ m / 2 + 1 ≤ (ks.length : Int))
  nd : P.Nodup
theorem putI_map {ks : List Int} {v : Int → Int} {a w : Int} (ha : a ∈ ks) : putI (ks.map fun o => (o, v o)) a w = ks.map fun o => (o, if o = a then w else v o) := by
  unfold putI
  rw [if_pos (List.any_eq_true.mpr ⟨(a, v a), List.mem_map.mpr ⟨a, ha, rfl⟩, by simp⟩), List.map_map]
  refine List.map_congr_left fun o _ => ?_
  simp only [Function.comp]
  by_cases ho : o = a
  · simp [ho]
  · simp [ho]
theorem getI_map {ks : List Int} {v : Int → Int} {a : Int} (ha : a ∈ ks) : getI (ks.map fun o => (o, v o)) a = some (v a) := by
  induction ks with
  | nil => cases ha
  | cons b r ih =>
    unfold getI
    rw [List.map_cons]
    by_cases hb : b = a
    · subst hb
      rw [List.find?_cons_of_pos (by simp)]; rfl
    · rw [List.find?_cons_of_neg (by simpa using hb)]
      exact ih ((List.mem_cons.mp ha).resolve_left fun z => hb z.symm)
/-- a word more -/
theorem KV.step {o : Int} (hk : KV m now u t0 P kvs) (h0 : 0 ≤ t0) (hu : t0 < u) (ho : o ∉ P) : KV m now u t0 (o :: P) (wStep kvs (.got x 1 o u)) := by
  obtain ⟨⟨ks, nk, sub, rfl, low⟩, nP⟩ := hk
  have he : wStep (ks.map fun o' => (o', if o' ∈ P then u else t0)) (.got x 1 o u) = putI (ks.map fun o' => (o', if o' ∈ P then u else t0)) o u := by
    unfold wStep
    show putI _ o (if u > (getI _ o).getD 0 then u else (getI _ o).getD 0) = _
    by_cases hm : o ∈ ks
    · have e := getI_map (v := fun o' => if o' ∈ P then u else t0) hm
      rw [e]
      show putI _ o (if u > (if o ∈ P then u else t0) then u else _) = _
      rw [if_neg ho, if_pos hu]
    · have e : getI (ks.map fun o' => (o', if o' ∈ P then u else t0)) o = none := getI_none_iff.mpr (by rw [List.map_map]; simpa using hm)
      rw [e]
      show putI _ o (if u > 0 then u else _) = _
      rw [if_pos (by omega)]
  refine ⟨?_, List.nodup_cons.mpr ⟨ho, nP⟩⟩
  rw [he]
  by_cases hm : o ∈ ks
  · refine ⟨ks, nk, fun o' ho' => (List.mem_cons.mp ho').elim (fun z => z ▸ hm) (sub o'), ?_, low⟩
    rw [putI_map (v := fun o' => if o' ∈ P then u else t0) hm]
    refine List.map_congr_left fun o' _ => ?_
    by_cases e : o' = o
    · simp [e]
    · simp [e]
  · refine ⟨ks ++ [o], ?_, fun o' ho' => ?_, ?_, ?_⟩
    · exact List.nodup_append.mpr ⟨nk, by simp, fun a ha b hb z => hm (by rw [← List.mem_singleton.mp hb, ← z]; exact ha)⟩
    · rcases List.mem_cons.mp ho' with rfl | z
      · exact List.mem_append_right _ List.mem_cons_self
      · exact List.mem_append_left _ (sub o' z)
    · rw [putI_new (by rw [List.map_map]; simpa using hm), List.map_append]
      simp
      intro o' ho'
      have : o' ≠ o := fun z => hm (z ▸ ho')
      simp [this]
    · rcases low with h | h
      · exact .inl h
      · right; rw [List.length_append]; simp; omega
end
end DL
namespace DL
open PySem PySem.Spec PyProof.Rows L2
section
variable {m t now h u t0 : Int} {x p : Str} {f : Int → List En} {g : Int → List Nt} {ys : List Le} {es : List En} {P : List Int} {kvs : List (Int × Int)}
/-- the log of the house that claims: P have given their words -/
structure HL (m now u t0 : Int) (x p : Str) (P : List Int) (es : List En) : Prop where
  cl : ∃ c, claimOf es x = some c ∧ c.num = 1 ∧ c.per = p
  kv : KV m now u t0 P (wordsAt es x 1)
theorem HL.got {o : Int} (hl : HL m now u t0 x p P es) (h0 : 0 ≤ t0) (hu : t0 < u) (ho : o ∉ P) : HL m now u t0 x p (o :: P) (es ++ [.got x 1 o u]) := by
  obtain ⟨⟨c, h1, h2, h3⟩, kv⟩ := hl
  obtain ⟨c', q1, q2, q3⟩ := claim_more (fs := [.got x 1 o u]) h1 (fun e he => by
    rw [List.mem_singleton.mp he]
    exact ⟨by simp [En.kind], fun _ _ z => by cases z⟩)
  refine ⟨⟨c', q1, q2.trans h2, q3.trans h3⟩, ?_⟩
  rw [words_snoc, if_pos ⟨rfl, rfl, rfl⟩]
  exact kv.step h0 hu ho
end
end DL
namespace DL
open PySem PySem.Spec PyProof.Rows L2
section
variable {m t now h u t0 : Int} {x p : Str} {f : Int → List En} {g : Int → List Nt} {ys : List Le} {es : List En} {P : List Int} {kvs : List (Int × Int)}
/-- ahead of a claim's or a renewal's letters -/
structure Rd (m t now : Int) (f : Int → List En) (g : Int → List Nt) (h : Int) (x p : Str) (t0 : Int) : Prop where
  hm : 1 ≤ m
  hh : houseOk m h
  h0 : 0 ≤ t0
  ht : t0 < now + t
  hn : now < now + t
  due0 : isDue (f h ++ [.ask x 1 p (now + t)]) x h 1 (now + t) now = true
  cl : ∃ c, claimOf (f h ++ [.ask x 1 p (now + t)]) x = some c ∧ c.num = 1 ∧ c.per = p
  kv : KV m now (now + t) t0 [] (wordsAt (f h ++ [.ask x 1 p (now + t)]) x 1)
  due : ∀ o ∈ others m h, isDue (f o) x h 1 (now + t) now = true
  nts : ∀ o, houseOk m o → keepN (g o) (some ⟨x, h, 1, p, now⟩) = [⟨x, h, 1, p, now⟩]
def fA (t now : Int) (f : Int → List En) (h : Int) (x p : Str) : Int → List En := upd f h (f h ++ [.ask x 1 p (now + t), .word x h 1 (now + t), .got x 1 h (now + t)])
def fB (m t now : Int) (f : Int → List En) (h : Int) (x p : Str) : Int → List En := fun o => if o ∈ others m h then fA t now f h x p o ++ [.word x h 1 (now + t)] else fA t now f h x p o
def fC (m t now : Int) (f : Int → List En) (h : Int) (x p : Str) : Int → List En := upd (fB m t now f h x p) h (fB m t now f h x p h ++ (others m h).map fun o => En.got x 1 o (now + t))
end
end DL
namespace DL
open PySem PySem.Spec PyProof.Rows L2
section
variable {st : Sto} {X : PoX} {Q : PoE} {w v : Wo} {n j : Nat} {m t now h u t0 : Int} {x p : Str} {es : List En}
theorem carried_keeps {k : Int} : (carriedW w k).down = w.down ∧ (carriedW w k).side = w.side := by
  unfold carriedW
  split <;> exact ⟨rfl, rfl⟩
theorem Carr.ok (h : Carr j w v) : ∀ {n : Nat}, WOk n w → w.down = [] → w.side = [] → WOk (n + j) v ∧ v.down = [] ∧ v.side = [] := by
  induction h with
  | nil => intro n ok hd hs; exact ⟨ok, hd, hs⟩
  | cons e _ ih =>
    intro n ok hd hs
    obtain ⟨k1, k2⟩ := carried_keeps
    have := ih (carried_ok ok (k := 0) (by omega) (by rw [e, List.length_cons]; omega)) (k1.trans hd) (k2.trans hs)
    rw [show ∀ a b : Nat, a + (b + 1) = a + 1 + b by intros; omega]
    exact this
abbrev f1 (m t h : Int) (x p : Str) : Int → List En := fC m t 0 (fun _ => []) h x p
end
end DL
namespace DL
open PySem PySem.Spec PyProof.Rows L2 PySem.SeqAt
def eB (st : Sto) (x y : D) : Option Bool := match y with
  | .tup [] => (tpOf x).map List.isEmpty
  | .lst [] => (match x with | .lst ds => some ds.isEmpty | _ => none)
  | _ => none
def dEqE (st : Sto) (x y : D) : Option D := (eB st x y).map .bl
def dNeE (st : Sto) (x y : D) : Option D := (eB st x y).map fun b => .bl (!b)
section
variable {X : Cx} {E : XK} {a b : Expr} {ma mb : WE} {pos : Pos}
@[simp] theorem dEqE_tup {st : Sto} {ds : List D} : dEqE st (.tup ds) (.tup []) = some (.bl ds.isEmpty) := rfl
@[simp] theorem dNeE_tup {st : Sto} {ds : List D} : dNeE st (.tup ds) (.tup []) = some (.bl (!ds.isEmpty)) := rfl
@[simp] theorem dEqE_lst {st : Sto} {ds : List D} : dEqE st (.lst ds) (.lst []) = some (.bl ds.isEmpty) := rfl
@[simp] theorem dNeE_lst {st : Sto} {ds : List D} : dNeE st (.lst ds) (.lst []) = some (.bl (!ds.isEmpty)) := rfl
end
end DL
namespace DL
open PySem PySem.Spec PyProof.Rows L2
def cListT (st : Sto) : List D → Option D
  | [.str x] => if x.cps.size ≤ sizeLine then some (.lst (x.cps.toList.map fun c => D.str ⟨#[c]⟩)) else none
  | _ => none
@[simp] theorem cListT_str {st : Sto} {x : Str} (h : x.cps.size ≤ sizeLine) : cListT st [.str x] = some (.lst (x.cps.toList.map fun c => D.str ⟨#[c]⟩)) := if_pos h
end DL
namespace DL
open PySem PySem.Spec PyProof.Rows L2
section
variable {st st' : Sto} {X : PoX} {Q : PoE} {m : Int} {d : D}
/-- things as the laws write them: an empty dict is the one changed thing -/
def KD0 (st : Sto) : D → Prop
  | .non => True | .bl _ => True | .int _ => True | .tup _ => True | .lst _ => True
  | .str y => y.length ≤ 10000
  | .ref q => st q = some (.dk [])
  | _ => False
def KD1 (st : Sto) (d : D) : Prop := KD0 st d ∧ ∀ ds, d = .tup ds → ds.length ≤ 1000 ∧ ∀ e ∈ ds, KD0 st e
def KD2 (st : Sto) (d : D) : Prop := KD0 st d ∧ ∀ ds, d = .tup ds → ds.length ≤ 1000 ∧ ∀ e ∈ ds, KD1 st e
/-- empty dicts stay -/
def Dks (st st' : Sto) : Prop := ∀ q, st q = some (.dk []) → st' q = some (.dk [])
theorem KD0.mono (h : KD0 st d) (hs : Dks st st') : KD0 st' d := by
  cases d <;> first | exact h | exact hs _ h
theorem KD1.mono (h : KD1 st d) (hs : Dks st st') : KD1 st' d := ⟨h.1.mono hs, fun ds e => ⟨(h.2 ds e).1, fun x hx => ((h.2 ds e).2 x hx).mono hs⟩⟩
theorem KD2.mono (h : KD2 st d) (hs : Dks st st') : KD2 st' d := ⟨h.1.mono hs, fun ds e => ⟨(h.2 ds e).1, fun x hx => ((h.2 ds e).2 x hx).mono hs⟩⟩
theorem KD0.ty (h : KD0 st d) : tyNm st d = some (match d with | .non => "NoneType" | .bl _ => "bool" | .int _ => "int" | .str _ => "str" | .tup _ => "tuple" | .lst _ => "list" | _ => "dict") := by
  cases d with
  | ref q =>
    have h : st q = some (.dk []) := h
    unfold tyNm
    simp only
    rw [h]
  | kt => cases h
  | kl => cases h
  | ty => cases h
  | exc => cases h
  | cls => cases h
  | _ => rfl
theorem KD0.kn (h : KD0 st d) : Kn st d := ⟨_, h.ty⟩
def plB : D → Bool
  | .int k => decide (0 ≤ k)
  | _ => false
/-- rising numbers -/
def risB (ds : List D) : Bool := match intsOf ds with
  | some ns => decide (ns.Pairwise (· < ·))
  | none => false
def sdB (m : Int) : D → Bool
  | .tup ds => ds.all (hsB m) && (decide (0 < ds.length) && (decide ((ds.length : Int) < m) && risB ds))
  | _ => false
theorem hs_ints {ds : List D} (h : ∀ e ∈ ds, hsB m e = true) : ∃ ns : List Int, ds = ns.map .int := by
  induction ds with
  | nil => exact ⟨[], rfl⟩
  | cons e r ih =>
    obtain ⟨ns, rfl⟩ := ih fun x hx => h x (List.mem_cons_of_mem _ hx)
    have := h e List.mem_cons_self
    cases e with
    | int k => exact ⟨k :: ns, rfl⟩
    | _ => cases this
end
end DL
namespace DL
open PySem PySem.Spec PyProof.Rows L2
variable {X : Cx} {E : XK} {a b c o : Expr} {ma mb mc mo : WE} {pos p apos cpos : Pos}
def wDictA : WE := fun e st X Q => wDictR e st X Q ∨ wDictRT e st X Q
@[simp] theorem wDictA_ap {e : Env} {st : Sto} {X : PoX} {Q : PoE} : wDictA e st X Q = (wDictR e st X Q ∨ wDictRT e st X Q) := id rfl
def dropKD {κ : Type} [DecidableEq κ] (kvs : List (κ × D)) (k : κ) : List (κ × D) := kvs.filter fun kv => decide (kv.1 ≠ k)
def popD (st : Sto) (a : Addr) (y : D) : Option (D × Sto) := (cellKV (st a)).bind fun kvs => (keyOf y).bind fun k => (valD kvs k).map fun d => (d, st.set a (.dk (dropKD kvs k)))
def popD2 (st : Sto) (a : Addr) (y z : D) : Option (D × Sto) := (cellKV (st a)).bind fun kvs => (keyOf y).map fun k => match valD kvs k with
  | some d => (d, st.set a (.dk (dropKD kvs k)))
  | none => (z, st)
def wPop1 (o k : WE) : WE := fun e st X Q => o e st X fun d st1 => on (dctOf st1 d) fun a => k e st1 X fun y st2 => on (popD st2 a y) fun p => Q p.1 p.2
@[simp] theorem wPop1_ap {o k : WE} {e : Env} {st : Sto} {X : PoX} {Q : PoE} : wPop1 o k e st X Q = o e st X fun d st1 => on (dctOf st1 d) fun a => k e st1 X fun y st2 => on (popD st2 a y) fun p => Q p.1 p.2 := id rfl
def wPop2 (o k x : WE) : WE := fun e st X Q => o e st X fun d st1 => on (dctOf st1 d) fun a => k e st1 X fun y st2 => x e st2 X fun z st3 => on (popD2 st3 a y z) fun p => Q p.1 p.2
@[simp] theorem wPop2_ap {o k x : WE} {e : Env} {st : Sto} {X : PoX} {Q : PoE} : wPop2 o k x e st X Q = o e st X fun d st1 => on (dctOf st1 d) fun a => k e st1 X fun y st2 => x e st2 X fun z st3 => on (popD2 st3 a y z) fun p => Q p.1 p.2 := id rfl
def wMulR (x y : WE) : WE := fun e st X Q => x e st X fun d st1 => y e st1 X fun k st2 => on (match k with
  | .int k => (lsOf st2 d).bind fun ds => if 0 ≤ k ∧ k < 2 ^ 63 ∧ ds.length * k.toNat ≤ sizeLine then some (List.replicate k.toNat ds).flatten else none
  | _ => none) fun ds => ∀ p, st2 p = none → Q (.ref p) (st2.set p (.lst ds))
@[simp] theorem wMulR_ap {x y : WE} {e : Env} {st : Sto} {X : PoX} {Q : PoE} : wMulR x y e st X Q = x e st X fun d st1 => y e st1 X fun k st2 => on (match k with
  | .int k => (lsOf st2 d).bind fun ds => if 0 ≤ k ∧ k < 2 ^ 63 ∧ ds.length * k.toNat ≤ sizeLine then some (List.replicate k.toNat ds).flatten else none
  | _ => none) fun ds => ∀ p, st2 p = none → Q (.ref p) (st2.set p (.lst ds)) := id rfl
def wAsgL (ts : List Tg) (m : WE) : WS := fun E e st => m e st E.ex fun d st1 => on ((lsOf st1 d).bind fun ds => asgs ts ds e) fun e1 => E.nx e1 st1
@[simp] theorem wAsgL_ap {ts : List Tg} {m : WE} {E : WEnds} {e : Env} {st : Sto} : wAsgL ts m E e st = m e st E.ex fun d st1 => on ((lsOf st1 d).bind fun ds => asgs ts ds e) fun e1 => E.nx e1 st1 := id rfl
def wSortVals (m : WE) : WE := fun e st X Q => m e st X fun d st1 => on ((valsOf st1 d).bind intsOf) fun ns => ns.length < 64 ∧ Q (.lst ((sortI ns).map .int)) st1
@[simp] theorem wSortVals_ap {m : WE} {e : Env} {st : Sto} {X : PoX} {Q : PoE} : wSortVals m e st X Q = m e st X fun d st1 => on ((valsOf st1 d).bind intsOf) fun ns => ns.length < 64 ∧ Q (.lst ((sortI ns).map .int)) st1 := id rfl
end DL
namespace DL
open PySem PySem.Spec PyProof.Rows L2
section
variable {κ : Type} [DecidableEq κ] {kvs : List (κ × D)} {k k' : κ} {v : D}
theorem valD_nil : valD ([] : List (κ × D)) k = none := rfl
theorem valD_cons {p : κ × D} : valD (p :: kvs) k = if p.1 = k then some p.2 else valD kvs k := by obtain ⟨a, b⟩ := p; rfl
theorem valD_map : ∀ {kvs : List (κ × D)}, valD (kvs.map fun kv => if kv.1 = k then (kv.1, v) else kv) k' = if k = k' then (if kvs.any (fun kv => decide (kv.1 = k)) = true then some v else none) else valD kvs k'
  | [] => by split <;> rfl
  | p :: r => by
    have ih := valD_map (kvs := r)
    rw [List.map_cons, valD_cons, ih, List.any_cons]
    by_cases h1 : p.1 = k
    · rw [if_pos h1]
      by_cases h2 : k = k'
      · subst h2; simp [h1]
      · have h3 : ¬ p.1 = k' := fun z => h2 (h1.symm.trans z)
        rw [if_neg h3, if_neg h2, if_neg h2, valD_cons, if_neg h3]
    · rw [if_neg h1]
      by_cases h2 : k = k'
      · subst h2; rw [if_neg h1, if_pos rfl, if_pos rfl, decide_eq_false h1, Bool.false_or]
      · rw [if_neg h2, if_neg h2, valD_cons]
theorem valD_app {l : List (κ × D)} : valD (kvs ++ l) k = (valD kvs k).or (valD l k) := by
  induction kvs with
  | nil => rfl
  | cons p r ih =>
    rw [List.cons_append, valD_cons, valD_cons, ih]
    split <;> rfl
theorem valD_any : (kvs.any fun kv => decide (kv.1 = k)) = (valD kvs k).isSome := by
  induction kvs with
  | nil => rfl
  | cons p r ih =>
    rw [List.any_cons, valD_cons, ih]
    by_cases h : p.1 = k <;> simp [h]
theorem valD_put : valD (putKD kvs k v) k' = if k = k' then some v else valD kvs k' := by
  unfold putKD
  split
  · rename_i h
    rw [valD_map, if_pos h]
  · rename_i h
    rw [valD_any] at h
    rw [valD_app, valD_cons, valD_nil]
    by_cases e : k = k'
    · subst e
      have : valD kvs k = none := by simpa using h
      rw [if_pos rfl, this]; simp
    · rw [if_neg e]; simp [e]
theorem putKD_len : (putKD kvs k v).length ≤ kvs.length + 1 := by
  unfold putKD
  split
  · rw [List.length_map]; omega
  · rw [List.length_append]; simp
end
section
variable {st : Sto} {a b : Addr} {kvs : List (L2.Key × D)} {tvs : List (List L2.Key × D)} {x : Str} {i : Int} {v d : D} {ds : List D}
theorem dk_ix (h : st a = some (.dk kvs)) : ixD st (.ref a) (.str x) = valD kvs (.inr x) := by
  have e : sqOf st (.ref a) = none := by rw [sqOf_ref', h]; rfl
  show (match sqOf st (.ref a) with | some ds => _ | none => (dctGet (st a) _).bind id) = _
  rw [e]
  unfold dctGet
  simp only [h, cellKV_dk, keyOf, Option.map_some]
  rfl
theorem ls_app (h : st a = some (.lst ds)) (hz : ds.length < sizeLine) : mAppend st (.ref a) [d] = some (.non, st.set a (.lst (ds ++ [d]))) := by
  unfold mAppend
  simp [h, cellL, hz]
theorem ls_ty (h : st a = some (.lst ds)) : tyNm st (.ref a) = some "list" := by unfold tyNm; simp only [h]
end
inductive Hk where
  | logs | gave | claims | got | noes | notices | clm (n : Str) | wrd (n : Str) | noe (n : Str)
  deriving DecidableEq
inductive Kd where
  | logs | gave | claims | got | noes | notices
  deriving DecidableEq
def Kd.hk : Kd → Hk
  | .logs => .logs | .gave => .gave | .claims => .claims | .got => .got | .noes => .noes | .notices => .notices
inductive Ow where
  | root | down | yard | last | col (k : Kd) | hs (h : Int) (k : Hk)
  deriving DecidableEq
structure Pm where
  m : Int
  w : Wo
  loc : Ow → Addr
  nl : Int → Str → Bool
  cl : List Str
  ps : List Str
  sd : D
/-- a name's claim stands in a log -/
def cur (es : List En) (n : Str) : Prop := greatest es n ≠ 0 ∧ En.back n (greatest es n) ∉ es
instance {es : List En} {n : Str} : Decidable (cur es n) := by unfold cur; infer_instance
theorem claimOf_cur {es : List En} {n : Str} (h : cur es n) : ∃ c, claimOf es n = some c ∧ c.num = greatest es n ∧ c.per = perAt es n (greatest es n) ∧ c.til = tilAt es n (greatest es n) ∧ c.words = sortP (wordsAt es n (greatest es n)) ∧
    c.others = (sortI ((noesAt es n (greatest es n)).map (·.1))).filter fun h => !decide (h ∈ (wordsAt es n (greatest es n)).map (·.1)) := by
  obtain ⟨h1, h2⟩ := h
  unfold claimOf
  simp only
  rw [if_neg fun z => z.elim h1 h2]
  exact ⟨_, rfl, rfl, rfl, rfl, rfl, rfl⟩
def gvD (a : Int × Int × Int) : D := .tup [.tup [.int a.1, .int a.2.1], .int a.2.2]
abbrev kS (s : Str) : L2.Key := Sum.inr s
def rootK (P : Pm) : List (L2.Key × D) := [(kS "now", .int P.w.now), (kS "term", .int P.w.term), (kS "many", .int P.m), (kS "down", .ref (P.loc .down)), (kS "side", P.sd), (kS "yard", .ref (P.loc .yard)),
  (kS "logs", .ref (P.loc (.col .logs))), (kS "gave", .ref (P.loc (.col .gave))), (kS "claims", .ref (P.loc (.col .claims))), (kS "got", .ref (P.loc (.col .got))), (kS "noes", .ref (P.loc (.col .noes))), (kS "notices", .ref (P.loc (.col .notices))),
  (kS "last", .ref (P.loc .last)), (kS "called", .lst (P.cl.map .str)), (kS "persons", .lst (P.ps.map .str))]
def colD (P : Pm) (k : Kd) : List D := (rangeI 0 P.m).map fun h => .ref (P.loc (.hs h k.hk))
def SpecH (L : Nat) (P : Pm) (h : Int) (es : List En) (nt : List Nt) : Hk → Cell → Prop
  | .logs, c => c = .lst (es.map En.d) ∧ es.length ≤ L
  | .gave, c => ∃ kvs, c = .dk kvs ∧ kvs.length ≤ L ∧ ∀ n, valD kvs (.inr n) = (wordIn es n).map gvD
  | .claims, c => ∃ kvs, c = .dk kvs ∧ kvs.length ≤ L ∧ ∀ n, valD kvs (.inr n) = if cur es n then some (.ref (P.loc (.hs h (.clm n)))) else none
  | .got, c => ∃ kvs, c = .dt kvs ∧ kvs.length ≤ L ∧ ∀ n, cur es n → valD kvs [.inr n, .inl (greatest es n)] = some (.ref (P.loc (.hs h (.wrd n))))
  | .noes, c => ∃ kvs, c = .dt kvs ∧ kvs.length ≤ L ∧ (∀ n k, maxAsk es < k → valD kvs [.inr n, .inl k] = none) ∧
      ∀ n, cur es n → if P.nl h n = true then valD kvs [.inr n, .inl (greatest es n)] = some (.ref (P.loc (.hs h (.noe n)))) else valD kvs [.inr n, .inl (greatest es n)] = none ∧ noesAt es n (greatest es n) = []
  | .notices, c => ∃ l : List Nt, c = .dk (encT Nt.d (l.map ntP)) ∧ l.Perm nt ∧ l.length ≤ L
  | .clm n, c => c = .lst [.int (greatest es n), .str (perAt es n (greatest es n)), .int (tilAt es n (greatest es n))]
  | .wrd n, c => c = .dk (encK .int (wordsAt es n (greatest es n))) ∧ (wordsAt es n (greatest es n)).length ≤ L
  | .noe n, c => c = .dk (encK .bl (noesAt es n (greatest es n))) ∧ (noesAt es n (greatest es n)).length ≤ L
def lastD (P : Pm) : List D := (rangeI 0 P.m).map fun h => .int (maxAsk (P.w.log h))
def Spec (L : Nat) (P : Pm) : Ow → Cell → Prop
  | .root, c => c = .dk (rootK P)
  | .down, c => ∃ l : List Int, c = .lst (l.map .int) ∧ l.Perm P.w.down
  | .yard, c => c = .lst (P.w.yard.map Le.d)
  | .last, c => c = .lst (lastD P)
  | .col k, c => c = .lst (colD P k)
  | .hs h k, c => SpecH L P h (P.w.log h) (P.w.ntl h) k c
def Live (P : Pm) : Ow → Prop
  | .hs h (.clm n) => houseOk P.m h ∧ cur (P.w.log h) n
  | .hs h (.wrd n) => houseOk P.m h ∧ cur (P.w.log h) n
  | .hs h (.noe n) => houseOk P.m h ∧ cur (P.w.log h) n ∧ P.nl h n = true
  | .hs h _ => houseOk P.m h
  | _ => True
/-- what is beside the cells -/
structure MB (P : Pm) : Prop where
  mm : P.w.m = P.m
  nn : P.w.nts.length = P.w.logs.length
  m1 : 1 ≤ P.m
  m7 : P.m ≤ 7
  sd : (P.sd = .lst [] ∧ P.w.side = []) ∨ P.sd = .tup (P.w.side.map .int)
  cl : P.cl.length = 6 ∧ ∀ x ∈ P.cl, nameOk x = true
  ps : P.ps.length = 2 ∧ ∀ x ∈ P.ps, nameOk x = true
structure MR (F : Addr → Prop) (L : Nat) (P : Pm) (st : Sto) : Prop where
  inj : ∀ o o', Live P o → Live P o' → P.loc o = P.loc o' → o = o'
  cells : ∀ o, Live P o → ∃ c, st (P.loc o) = some c ∧ Spec L P o c
  out : ∀ o, Live P o → ¬ F (P.loc o)
  fs : ∀ b, F b → st b ≠ none
  b : MB P
def Kp (F : Addr → Prop) (st st' : Sto) : Prop := ∀ b, F b → st' b = st b
theorem Kp.refl {F : Addr → Prop} {st : Sto} : Kp F st st := fun _ _ => rfl
theorem Kp.trans {F : Addr → Prop} {s1 s2 s3 : Sto} (h : Kp F s1 s2) (h' : Kp F s2 s3) : Kp F s1 s3 := fun b hb => (h' b hb).trans (h b hb)
/-- the frame of the cells that say where the others stand -/
structure Sk (P : Pm) (st : Sto) : Prop where
  root : st (P.loc .root) = some (.dk (rootK P))
  col : ∀ k, st (P.loc (.col k)) = some (.lst (colD P k))
section
variable {F : Addr → Prop} {L L' : Nat} {P P' : Pm} {st : Sto} {o o' : Ow} {h : Int} {k : Kd} {b : Addr} {c : Cell}
theorem MR.ne (M : MR F L P st) (l : Live P o) (l' : Live P o') (n : o ≠ o') : P.loc o ≠ P.loc o' := fun e => n (M.inj _ _ l l' e)
theorem Sk.set (S : Sk P st) (h1 : b ≠ P.loc .root) (h2 : ∀ k, b ≠ P.loc (.col k)) : Sk P (st.set b c) :=
  ⟨by rw [Sto.set_ne (Ne.symm h1)]; exact S.root, fun k => by rw [Sto.set_ne (Ne.symm (h2 k))]; exact S.col k⟩
theorem MR.some_ (M : MR F L P st) (l : Live P o) : st (P.loc o) ≠ none := by
  obtain ⟨c, h1, _⟩ := M.cells o l
  rw [h1]; exact fun z => nomatch z
theorem Sk.now (S : Sk P st) : ixD st (.ref (P.loc .root)) (.str "now") = some (.int P.w.now) := by rw [dk_ix S.root]; rfl
theorem Sk.term (S : Sk P st) : ixD st (.ref (P.loc .root)) (.str "term") = some (.int P.w.term) := by rw [dk_ix S.root]; rfl
theorem Sk.down (S : Sk P st) : ixD st (.ref (P.loc .root)) (.str "down") = some (.ref (P.loc .down)) := by rw [dk_ix S.root]; rfl
theorem Sk.side (S : Sk P st) : ixD st (.ref (P.loc .root)) (.str "side") = some P.sd := by rw [dk_ix S.root]; rfl
theorem Sk.yard (S : Sk P st) : ixD st (.ref (P.loc .root)) (.str "yard") = some (.ref (P.loc .yard)) := by rw [dk_ix S.root]; rfl
theorem Sk.logs (S : Sk P st) : ixD st (.ref (P.loc .root)) (.str "logs") = some (.ref (P.loc (.col .logs))) := by rw [dk_ix S.root]; rfl
theorem Sk.gave (S : Sk P st) : ixD st (.ref (P.loc .root)) (.str "gave") = some (.ref (P.loc (.col .gave))) := by rw [dk_ix S.root]; rfl
theorem Sk.claims (S : Sk P st) : ixD st (.ref (P.loc .root)) (.str "claims") = some (.ref (P.loc (.col .claims))) := by rw [dk_ix S.root]; rfl
theorem Sk.got (S : Sk P st) : ixD st (.ref (P.loc .root)) (.str "got") = some (.ref (P.loc (.col .got))) := by rw [dk_ix S.root]; rfl
theorem Sk.noes (S : Sk P st) : ixD st (.ref (P.loc .root)) (.str "noes") = some (.ref (P.loc (.col .noes))) := by rw [dk_ix S.root]; rfl
theorem Sk.notices (S : Sk P st) : ixD st (.ref (P.loc .root)) (.str "notices") = some (.ref (P.loc (.col .notices))) := by rw [dk_ix S.root]; rfl
theorem Sk.last (S : Sk P st) : ixD st (.ref (P.loc .root)) (.str "last") = some (.ref (P.loc .last)) := by rw [dk_ix S.root]; rfl
theorem rangeI_at {m h : Int} (h0 : houseOk m h) {α : Type} {f : Int → α} : atI ((rangeI 0 m).map f) h = some (f h) := by
  obtain ⟨h1, h2⟩ := h0
  have e : h = ((h.toNat : Nat) : Int) := by omega
  rw [e, atI_N, List.getElem?_map]
  unfold rangeI
  rw [List.getElem?_map, List.getElem?_range (by omega)]
  simp
theorem Sk.at_ (S : Sk P st) (h0 : houseOk P.m h) (k : Kd) : ixD st (.ref (P.loc (.col k))) (.int h) = some (.ref (P.loc (.hs h k.hk))) := by
  rw [ixD_ref (S.col k)]
  exact rangeI_at h0
end
end DL
namespace DL
open PySem PySem.Spec PyProof.Rows L2
section
variable {es fs : List En} {e : En} {n x p : Str} {h k u s : Int} {w : Wo}
def addE (w : Wo) (h : Int) (es : List En) : Wo := { w with logs := w.logs.set h.toNat (w.log h ++ es) }
theorem addE_m : (addE w h es).m = w.m := by unfold Wo.m addE; simp
theorem addE_log {h' : Int} (h0 : houseOk w.m h) (h1 : 0 ≤ h') : (addE w h es).log h' = if h' = h then w.log h ++ es else w.log h' := by
  have hl : h.toNat < w.logs.length := by have := h0.2; have := h0.1; unfold Wo.m at *; omega
  have h00 := h0.1
  unfold addE
  show ((w.logs.set h.toNat (w.log h ++ es))[h'.toNat]?).getD [] = _
  rw [List.getElem?_set]
  by_cases e : h' = h
  · subst e; simp [hl]
  · rw [if_neg (by omega), if_neg e]; rfl
theorem addE_log' (h0 : houseOk w.m h) : (addE w h es).log h = w.log h ++ es := by rw [addE_log h0 h0.1, if_pos rfl]
theorem words_other (he : ¬ (e.kind = "got" ∧ e.name = n ∧ e.i2 = k)) : wordsAt (es ++ [e]) n k = wordsAt es n k := by rw [words_snoc, if_neg he]
theorem noes_other (he : ¬ (e.kind = "no" ∧ e.name = n ∧ e.i2 = k)) : noesAt (es ++ [e]) n k = noesAt es n k := by rw [noes_snoc, if_neg he]
theorem wordIn_other (h1 : e.kind ≠ "word") (h2 : e.kind ≠ "free") : wordIn (es ++ [e]) n = wordIn es n := by
  rw [wordIn_snoc]
  cases e <;> first | rfl | exact absurd rfl h1 | exact absurd rfl h2
theorem wordIn_word : wordIn (es ++ [.word x h k u]) n = if x = n then some (h, k, u) else wordIn es n := by rw [wordIn_snoc]; rfl
theorem wordIn_free {h' k' u' : Int} (hw : wordIn es x = some (h', k', u')) : wordIn (es ++ [.free x h' k']) n = if x = n then none else wordIn es n := by
  rw [wordIn_snoc]
  show wdB n (wordIn es n) (.free x h' k') = _
  unfold wdB
  by_cases e : x = n
  · subst e
    rw [hw]; simp
  · cases q : wordIn es n with
    | none => simp [e]
    | some a =>
      simp [e]
end
/-- what of a log a cell stands on -/
def Same (P : Pm) (h : Int) (es es' : List En) : Hk → Prop
  | .logs => False
  | .gave => ∀ n, wordIn es' n = wordIn es n
  | .claims => ∀ n, cur es' n ↔ cur es n
  | .got => ∀ n, cur es' n → cur es n ∧ greatest es' n = greatest es n
  | .noes => maxAsk es ≤ maxAsk es' ∧ ∀ n, cur es' n → cur es n ∧ greatest es' n = greatest es n ∧ (P.nl h n = false → noesAt es' n (greatest es' n) = noesAt es n (greatest es n))
  | .notices => True
  | .clm n => greatest es' n = greatest es n ∧ perAt es' n (greatest es' n) = perAt es n (greatest es n) ∧ tilAt es' n (greatest es' n) = tilAt es n (greatest es n)
  | .wrd n => wordsAt es' n (greatest es' n) = wordsAt es n (greatest es n)
  | .noe n => noesAt es' n (greatest es' n) = noesAt es n (greatest es n)
section
variable {F : Addr → Prop} {L L' : Nat} {P P' : Pm} {st : Sto} {o o1 o2 : Ow} {h : Int} {b : Addr} {c c1 c2 : Cell} {es : List En} {hk : Hk} {nt : List Nt} {e : En}
theorem SpecH.same {es' : List En} (hL : L ≤ L') (hs : Same P h es es' hk) (s : SpecH L P h es nt hk c) : SpecH L' P h es' nt hk c := by
  cases hk with
  | logs => exact hs.elim
  | gave =>
    obtain ⟨kvs, h1, h2, h3⟩ := s
    exact ⟨kvs, h1, by omega, fun n => by rw [h3, hs n]⟩
  | claims =>
    obtain ⟨kvs, h1, h2, h3⟩ := s
    exact ⟨kvs, h1, by omega, fun n => by rw [h3]; simp only [hs n]⟩
  | got =>
    obtain ⟨kvs, h1, h2, h3⟩ := s
    refine ⟨kvs, h1, by omega, fun n hn => ?_⟩
    obtain ⟨q1, q2⟩ := hs n hn
    rw [q2]; exact h3 n q1
  | noes =>
    obtain ⟨kvs, h1, h2, h3, h4⟩ := s
    refine ⟨kvs, h1, by omega, fun n k hk => h3 n k (by have := hs.1; omega), fun n hn => ?_⟩
    obtain ⟨q1, q2, q3⟩ := hs.2 n hn
    have h5 := h4 n q1
    by_cases z : P.nl h n = true
    · rw [if_pos z] at h5 ⊢
      rw [q2]; exact h5
    · rw [if_neg z] at h5 ⊢
      rw [q3 (by simpa using z), q2]; exact h5
  | notices =>
    obtain ⟨l, h1, h2, h3⟩ := s
    exact ⟨l, h1, h2, by omega⟩
  | clm n =>
    have s : c = _ := s
    show c = _
    rw [s, hs.1, ← hs.2.1, ← hs.2.2, hs.1]
  | wrd n =>
    obtain ⟨h1, h2⟩ := s
    have hs : wordsAt _ _ _ = _ := hs
    show c = _ ∧ _
    rw [hs]; exact ⟨h1, by omega⟩
  | noe n =>
    obtain ⟨h1, h2⟩ := s
    have hs : noesAt _ _ _ = _ := hs
    show c = _ ∧ _
    rw [hs]; exact ⟨h1, by omega⟩
theorem SpecH.up (hL : L ≤ L') (s : SpecH L P h es nt hk c) : SpecH L' P h es nt hk c := by
  by_cases z : hk = .logs
  · subst z; exact ⟨s.1, by have := s.2; omega⟩
  · refine s.same hL ?_
    cases hk with
    | logs => exact absurd rfl z
    | gave => exact fun _ => rfl
    | claims => exact fun _ => Iff.rfl
    | got => exact fun _ h => ⟨h, rfl⟩
    | noes => exact ⟨Int.le_refl _, fun _ h => ⟨h, rfl, fun _ => rfl⟩⟩
    | notices => exact True.intro
    | clm n => exact ⟨rfl, rfl, rfl⟩
    | wrd n => exact (rfl : wordsAt _ _ _ = _)
    | noe n => exact (rfl : noesAt _ _ _ = _)
theorem live_h {h' : Int} {k : Hk} (l : Live P (.hs h' k)) : houseOk P.m h' := by cases k <;> first | exact l | exact l.1
theorem MR.junk (M : MR F L P st) (hb : st b = none) : MR F L P (st.set b c) ∧ Kp F st (st.set b c) := by
  refine ⟨⟨M.inj, fun o l => ?_, M.out, fun a ha => ?_, M.b⟩, fun a ha => ?_⟩
  · obtain ⟨d, h1, h2⟩ := M.cells o l
    exact ⟨d, by rw [Sto.set_ne fun z => by rw [z, hb] at h1; cases h1]; exact h1, h2⟩
  · rw [Sto.set_ne fun z => M.fs a ha (by rw [z]; exact hb)]; exact M.fs a ha
  · exact Sto.set_ne fun z => M.fs a ha (by rw [z]; exact hb)
theorem MR.up (M : MR F L P st) (hL : L ≤ L') : MR F L' P st := ⟨M.inj, fun o l => by
  obtain ⟨d, h1, h2⟩ := M.cells o l
  refine ⟨d, h1, ?_⟩
  cases o with
  | hs h k => exact (show SpecH L P h _ _ k d from h2).up hL
  | _ => exact h2, M.out, M.fs, M.b⟩
theorem MR.set1 (M : MR F L P st) (hloc : P'.loc = P.loc) (hlv : ∀ o, Live P' o ↔ Live P o) (B' : MB P') (l1 : Live P o1) (s1 : Spec L' P' o1 c1) (oth : ∀ o c, Live P o → o ≠ o1 → Spec L P o c → Spec L' P' o c) :
    MR F L' P' (st.set (P.loc o1) c1) ∧ Kp F st (st.set (P.loc o1) c1) := by
  have nf : ∀ a, F a → a ≠ P.loc o1 := fun a ha z => M.out o1 l1 (by rw [← z]; exact ha)
  refine ⟨⟨fun o o' l l' e => M.inj o o' ((hlv o).mp l) ((hlv o').mp l') (by rw [hloc] at e; exact e), fun o l => ?_, fun o l => by rw [hloc]; exact M.out o ((hlv o).mp l), fun a ha => by rw [Sto.set_ne (nf a ha)]; exact M.fs a ha, B'⟩, fun a ha => Sto.set_ne (nf a ha)⟩
  rw [hloc]
  by_cases z : o = o1
  · subst z; exact ⟨c1, Sto.set_same, s1⟩
  · obtain ⟨d, h1, h2⟩ := M.cells o ((hlv o).mp l)
    exact ⟨d, by rw [Sto.set_ne (M.ne ((hlv o).mp l) l1 z)]; exact h1, oth o d ((hlv o).mp l) z h2⟩
end
end DL
namespace DL
open PySem PySem.Spec PyProof.Rows L2
end DL
namespace DL
open PySem PySem.Spec PyProof.Rows L2
end DL
namespace DL
open PySem PySem.Spec PyProof.Rows L2
/-- a step: from P at st to P' at st', whose world is w -/
structure To (F : Addr → Prop) (L : Nat) (P : Pm) (st : Sto) (w : Wo) (P' : Pm) (st' : Sto) : Prop where
  mr : MR F L P' st'
  w : P'.w = w
  m : P'.m = P.m
  r : P'.loc .root = P.loc .root
  cl : P'.cl = P.cl
  ps : P'.ps = P.ps
  sd : P'.sd = P.sd
  kp : Kp F st st'
section
variable {F : Addr → Prop} {L L' L2 : Nat} {P P' P2 : Pm} {st st' st2 : Sto} {X : PoX} {Q : PoE} {h a b u k s : Int} {x p : Str} {es : List En} {w w' : Wo} {z : Nt} {hk : Hk} {o : Ow} {c : Cell}
theorem To.trans (t : To F L P st w P' st') (t2 : To F L2 P' st' w' P2 st2) : To F L2 P st w' P2 st2 := ⟨t2.mr, t2.w, t2.m.trans t.m, t2.r.trans t.r, t2.cl.trans t.cl, t2.ps.trans t.ps, t2.sd.trans t.sd, t.kp.trans t2.kp⟩
theorem To.refl (M : MR F L P st) : To F L P st P.w P st := ⟨M, rfl, rfl, rfl, rfl, rfl, rfl, .refl⟩
theorem MB.nlt (B : MB P) (h0 : houseOk P.m h) : h.toNat < P.w.nts.length := by
  have := B.nn; have e := B.mm; have := h0.1; have := h0.2; unfold Wo.m at e; omega
theorem SpecH.nt {nt nt' : List Nt} (hn : hk ≠ .notices) (s : SpecH L P h es nt hk c) : SpecH L P h es nt' hk c := by
  cases hk <;> first | exact absurd rfl hn | exact s
end
end DL
namespace DL
open PySem PySem.Spec PyProof.Rows L2
end DL
namespace DL
open PySem PySem.Spec PyProof.Rows L2
end DL
namespace DL
open PySem PySem.Spec PyProof.Rows L2
end DL
namespace DL
open PySem PySem.Spec PyProof.Rows L2
section
variable {w : Wo} {n : Nat} {h k : Int} {x p : Str} {es : List En}
def NoOk (w : Wo) : Prop := ∀ es ∈ w.logs, ∀ x k o, En.no x k o ∈ es → k ≤ maxAsk es
theorem moved_no {ls : List Le} {no : Option Nt} (h0 : houseOk w.m h) (hg : NoOk w) (he : ∀ x k o, En.no x k o ∈ es → k ≤ maxAsk (w.log h ++ es)) : NoOk (movedW w h es ls no) := by
  intro es' hes
  have hes : es' ∈ w.logs.set h.toNat (w.log h ++ es) := hes
  rcases List.mem_or_eq_of_mem_set hes with hm | rfl
  · exact hg es' hm
  · intro x k o hx
    rcases List.mem_append.mp hx with hx | hx
    · exact Int.le_trans (hg _ (log_at h0).2 x k o hx) maxAsk_app
    · exact he x k o hx
theorem asked_no (h0 : houseOk w.m h) (hg : NoOk w) : NoOk (askedW w h x k p) := by
  unfold askedW
  dsimp only
  refine moved_no h0 hg ?_
  intro y j o hy
  have ha : k ≤ maxAsk (w.log h ++ En.ask x k p (w.now + w.term) :: ownWord (w.log h ++ [En.ask x k p (w.now + w.term)]) h x k (w.now + w.term) w.now) :=
    ask_le (e := En.ask x k p (w.now + w.term)) (List.mem_append_right _ List.mem_cons_self) rfl
  rcases List.mem_cons.mp hy with hy | hy
  · cases hy
  · have : j = k := by
      unfold ownWord at hy
      split at hy
      · simp at hy
      · split at hy
        · split at hy
          · cases hy
          · have := List.mem_singleton.mp hy
            injection this
        · cases hy
    omega
theorem back_no (h0 : houseOk w.m h) (hg : NoOk w) : NoOk (backW w h x) := by
  unfold backW
  split
  · exact hg
  · rename_i c hc
    refine moved_no h0 hg ?_
    intro y j o hy
    rcases List.mem_cons.mp hy with hy | hy
    · cases hy
    · split at hy
      · split at hy
        · have := List.mem_singleton.mp hy
          cases this
        · cases hy
      · cases hy
theorem carried_no (ok : WOk n w) (hk : 0 ≤ k) (hl : k < w.yard.length) (hg : NoOk w) : NoOk (carriedW w k) := by
  obtain ⟨l, h2, h3⟩ := let_at hk hl
  have lok := ok.yard l h3
  have h0 := lok.hs.2.1
  have lo := ok.log h0
  unfold carriedW
  rw [h2]
  dsimp only
  refine moved_no (w := { w with yard := w.yard.eraseIdx k.toNat }) h0 hg ?_
  intro y j o hy
  have hy : En.no y j o ∈ (taken w.m l.to (w.log l.to) l w.now).es := hy
  show j ≤ maxAsk (w.log l.to ++ (taken w.m l.to (w.log l.to) l w.now).es)
  refine Int.le_trans ?_ maxAsk_app
  cases l with
  | ask s t nm k' pp u =>
    unfold taken askTaken at hy
    dsimp only at hy
    split at hy
    · cases hy
    · split at hy
      · have := List.mem_singleton.mp hy
        cases this
      · split at hy
        · cases hy
        · split at hy <;> cases hy
  | word s t nm k' u =>
    unfold taken wordTaken at hy
    dsimp only at hy
    split at hy
    · cases hy
    · split at hy
      · cases hy
      · split at hy
        · cases hy
        · have e := List.mem_singleton.mp hy
          cases e
  | no s t nm k' =>
    unfold taken noTaken at hy
    dsimp only at hy
    split at hy
    · cases hy
    · rename_i c hc
      split at hy
      · cases hy
      · rename_i hne
        have e := List.mem_singleton.mp hy
        injection e with e1 e2 e3
        have h1 := claim_facts lo.ok hc
        have h2 := greatest_le_max (es := w.log (Le.no s t nm k').to) (x := nm)
        have h3 : c.num = k' := Classical.not_not.mp fun z => hne (.inl z)
        rw [e2, ← h3, h1.1]
        exact h2
  | back s t nm k' =>
    unfold taken backTaken at hy
    dsimp only at hy
    split at hy
    · cases hy
    · split at hy
      · have := List.mem_singleton.mp hy
        cases this
      · cases hy
  | told s t nm k' pp u => cases hy
theorem no_behind {e : De} (ok : WOk n w) (he : e.ok w.m) (hr : refusal w e = none) (hg : NoOk w) : NoOk (behindW w e) := by
  unfold refusal at hr
  obtain ⟨hl, hr⟩ := or_none hr
  have letOk : ∀ {k : Int}, (if k < (w.yard.length : Int) then (none : Option Str) else some (Str.ofString "NoLetter")) = none → k < w.yard.length := fun {k} hk => by
    split at hk
    · assumption
    · cases hk
  cases e with
  | claim h x p => exact asked_no he.1 hg
  | renew h x =>
    unfold behindW
    simp only
    split
    · exact hg
    · exact asked_no he.1 hg
  | back h x => exact back_no he.1 hg
  | carry k => exact carried_no ok he (letOk hl) hg
  | copy k =>
    unfold behindW copyW
    simp only
    split <;> exact hg
  | lose k => exact hg
  | fall h => exact hg
  | rise h => exact hg
  | part s => exact hg
  | heal => exact hg
  | round => exact hg
theorem no0 {m t : Int} : NoOk (w0 m t) := by
  intro es hes x k o hx
  unfold w0 at hes
  rw [(List.mem_replicate.mp hes).2] at hx
  cases hx
theorem words_above (hg : ∀ x k o u, En.got x k o u ∈ es → k ≤ maxAsk es) (hk : maxAsk es < k) : wordsAt es x k = [] := by
  have : ats es "got" x k = [] := List.filter_eq_nil_iff.mpr fun e he => by
    obtain ⟨h1, h2, _⟩ := ents_kind he
    cases e <;> simp [En.kind] at h2
    have := hg _ _ _ _ h1
    simp only [decide_eq_true_iff]
    intro z
    have z : (En.got _ _ _ _).i2 = k := z
    simp only [En.i2] at z
    omega
  unfold wordsAt
  rw [this]; rfl
theorem noes_above (hg : ∀ x k o, En.no x k o ∈ es → k ≤ maxAsk es) (hk : maxAsk es < k) : noesAt es x k = [] := by
  have : ats es "no" x k = [] := List.filter_eq_nil_iff.mpr fun e he => by
    obtain ⟨h1, h2, _⟩ := ents_kind he
    cases e <;> simp [En.kind] at h2
    have := hg _ _ _ h1
    simp only [decide_eq_true_iff]
    intro z
    have z : (En.no _ _ _).i2 = k := z
    simp only [En.i2] at z
    omega
  unfold noesAt
  rw [this]; rfl
end
end DL
namespace DL
open PySem PySem.Spec PyProof.Rows L2
abbrev Pm.sy (P : Pm) (ys : List Le) : Pm := { P with w := { P.w with yard := ys } }
section
variable {F : Addr → Prop} {L L' L3 : Nat} {P P' P2 : Pm} {st st' st2 : Sto} {X : PoX} {Q : PoE} {E : WEnds} {h a b u k s n now m : Int} {x p : Str} {es : List En} {w w' : Wo} {z : Nt} {ys ls : List Le} {e : En} {c c1 : Cell} {o : Ow}
theorem MR.yd (M : MR F L P st) : To F L P st { P.w with yard := ys } (P.sy ys) (st.set (P.loc .yard) (.lst (ys.map Le.d))) := by
  have r := M.set1 (P' := P.sy ys) (L' := L) rfl (fun o => by cases o with | hs h' k => cases k <;> exact Iff.rfl | _ => exact Iff.rfl) ⟨M.b.mm, M.b.nn, M.b.m1, M.b.m7, M.b.sd, M.b.cl, M.b.ps⟩ (o1 := .yard) trivial (c1 := .lst (ys.map Le.d)) rfl fun o c l n s => by
    cases o with
    | yard => exact absurd rfl n
    | _ => exact s
  exact ⟨r.1, rfl, rfl, rfl, rfl, rfl, rfl, r.2⟩
end
end DL
namespace DL
open PySem PySem.Spec PyProof.Rows L2
end DL
namespace DL
open PySem PySem.Spec PyProof.Rows L2
section
variable {F : Addr → Prop} {L L' L3 : Nat} {P P' P2 : Pm} {st st' st2 : Sto} {X : PoX} {Q : PoE} {E : WEnds} {h a b u k s now m : Int} {n x p : Str} {es fs : List En} {w w' : Wo} {z : Nt} {ys ls : List Le} {e : En} {c c1 : Cell} {o : Ow} {no : Option Nt}
theorem ask_other (hn : x ≠ n) : greatest (es ++ [.ask x k p u]) n = greatest es n ∧ (cur (es ++ [.ask x k p u]) n ↔ cur es n) ∧ perAt (es ++ [.ask x k p u]) n (greatest (es ++ [.ask x k p u]) n) = perAt es n (greatest es n) ∧
    tilAt (es ++ [.ask x k p u]) n (greatest (es ++ [.ask x k p u]) n) = tilAt es n (greatest es n) := by
  have e1 : greatest (es ++ [.ask x k p u]) n = greatest es n := by rw [greatest_snoc, if_neg fun z => hn z.2.1]
  refine ⟨e1, ?_, ?_, ?_⟩
  · unfold cur
    rw [e1, List.mem_append, List.mem_singleton]
    exact and_congr Iff.rfl (not_congr ⟨fun z => z.elim id (fun z => by cases z), .inl⟩)
  · rw [per_snoc, if_neg fun z => hn z.2.1]
  · rw [til_snoc, if_neg fun z => hn z.2.1]
    unfold tilU
    rw [if_neg fun z => hn z.2.1]
theorem ask_words : wordsAt (es ++ [.ask x k p u]) n s = wordsAt es n s := words_other fun z => absurd z.1 (by show "ask" ≠ "got"; decide)
theorem ask_noes : noesAt (es ++ [.ask x k p u]) n s = noesAt es n s := noes_other fun z => absurd z.1 (by show "ask" ≠ "no"; decide)
theorem ask_wordIn : wordIn (es ++ [.ask x k p u]) n = wordIn es n := wordIn_other (fun z => absurd z (by show "ask" ≠ "word"; decide)) (fun z => absurd z (by show "ask" ≠ "free"; decide))
end
end DL
namespace DL
open PySem PySem.Spec PyProof.Rows L2
section
variable {F : Addr → Prop} {L L' L3 : Nat} {P P' P2 : Pm} {st st' st2 st0 : Sto} {X : PoX} {Q : PoE} {E : WEnds} {h a b u k s now m : Int} {n x p : Str} {es fs : List En} {w w' : Wo} {z : Nt} {ys ls : List Le} {e : En} {c c1 : Cell} {o : Ow} {no : Option Nt} {p1 p2 : Addr} {hk : Hk} {kvs : List (Key × D)} {tvs : List (List Key × D)}
theorem ask_new (hk : maxAsk es < k) (hb : ∀ x k, En.back x k ∈ es → k ≤ maxAsk es) (hu : 1 ≤ u) : greatest (es ++ [.ask x k p u]) x = k ∧ cur (es ++ [.ask x k p u]) x ∧ perAt (es ++ [.ask x k p u]) x k = p ∧ tilAt (es ++ [.ask x k p u]) x k = u := by
  have h1 := greatest_le_max (es := es) (x := x)
  have h2 := maxAsk_nn (es := es)
  have e0 : (En.ask x k p u).kind = "ask" ∧ (En.ask x k p u).name = x ∧ (En.ask x k p u).i2 > greatest es x := ⟨rfl, rfl, by show k > _; omega⟩
  have e1 : greatest (es ++ [.ask x k p u]) x = k := by rw [greatest_snoc, if_pos e0]; rfl
  refine ⟨e1, ⟨by omega, ?_⟩, ?_, ?_⟩
  · rw [e1, List.mem_append, List.mem_singleton]
    rintro (z | z)
    · have := hb _ _ z; omega
    · cases z
  · have := per_snoc (es := es) (x := .ask x k p u) (name := x)
    rw [e1, if_pos ⟨rfl, rfl, rfl⟩] at this
    exact this
  · have := til_snoc (es := es) (x := .ask x k p u) (name := x)
    rw [e1, if_pos ⟨rfl, rfl, rfl⟩] at this
    rw [this]
    unfold tilU
    rw [if_pos e0]
    show (if u > 0 then u else 0) = u
    rw [if_pos (by omega)]
def Pm.newP (P : Pm) (h : Int) (x : Str) (e : En) (p1 p2 : Addr) : Pm := { P with w := addE P.w h [e], loc := fun o => if o = .hs h (.clm x) then p1 else if o = .hs h (.wrd x) then p2 else P.loc o, nl := fun h' n => if h' = h ∧ n = x then false else P.nl h' n }
theorem newP_loc (h1 : o ≠ .hs h (.clm x)) (h2 : o ≠ .hs h (.wrd x)) : (P.newP h x e p1 p2).loc o = P.loc o := by
  show (if o = .hs h (.clm x) then p1 else if o = .hs h (.wrd x) then p2 else P.loc o) = _
  rw [if_neg h1, if_neg h2]
theorem newP_c : (P.newP h x e p1 p2).loc (.hs h (.clm x)) = p1 := if_pos rfl
theorem newP_w : (P.newP h x e p1 p2).loc (.hs h (.wrd x)) = p2 := by
  show (if (Ow.hs h (.wrd x)) = .hs h (.clm x) then p1 else if (Ow.hs h (.wrd x)) = .hs h (.wrd x) then p2 else _) = p2
  rw [if_neg (fun z => by cases z), if_pos rfl]
theorem newP_nl : (P.newP h x e p1 p2).nl h x = false := if_pos ⟨rfl, rfl⟩
theorem newP_ne {h' : Int} {n : Str} (ne : ¬ (h' = h ∧ n = x)) : (P.newP h x e p1 p2).nl h' n = P.nl h' n := if_neg ne
theorem newP_root : rootK (P.newP h x e p1 p2) = rootK P := by
  unfold rootK
  rw [newP_loc (o := .down) (fun z => by cases z) (fun z => by cases z), newP_loc (o := .yard) (fun z => by cases z) (fun z => by cases z), newP_loc (o := .last) (fun z => by cases z) (fun z => by cases z)]
  have e : ∀ k, (P.newP h x e p1 p2).loc (.col k) = P.loc (.col k) := fun k => newP_loc (fun z => by cases z) (fun z => by cases z)
  rw [e, e, e, e, e, e]
  rfl
/-- houses beside -/
theorem newP_specH {h' : Int} {nt : List Nt} (hn : h' ≠ h) (s : SpecH L P h' es nt hk c) : SpecH L (P.newP h x e p1 p2) h' es nt hk c := by
  have nl : ∀ n, (P.newP h x e p1 p2).nl h' n = P.nl h' n := fun n => newP_ne fun z => hn z.1
  have lc : ∀ k, (P.newP h x e p1 p2).loc (.hs h' k) = P.loc (.hs h' k) := fun k => newP_loc (fun z => hn (by cases z; rfl)) (fun z => hn (by cases z; rfl))
  cases hk with
  | claims =>
    obtain ⟨kvs, h1, h2, h3⟩ := s
    exact ⟨kvs, h1, h2, fun n => by rw [h3, lc]⟩
  | got =>
    obtain ⟨kvs, h1, h2, h3⟩ := s
    exact ⟨kvs, h1, h2, fun n hc => by rw [h3 n hc, lc]⟩
  | noes =>
    obtain ⟨kvs, h1, h2, h3, h4⟩ := s
    exact ⟨kvs, h1, h2, h3, fun n hc => by rw [nl, lc]; exact h4 n hc⟩
  | _ => exact s
theorem set_rangeI {α : Type} {f : Int → α} {v : α} (h0 : houseOk m h) : ((rangeI 0 m).map f).set h.toNat v = (rangeI 0 m).map fun o => if o = h then v else f o := by
  obtain ⟨h1, h2⟩ := h0
  refine List.ext_getElem? fun i => ?_
  rw [List.getElem?_set, List.getElem?_map, List.getElem?_map, List.length_map, rangeI_len]
  unfold rangeI
  rw [List.getElem?_map]
  by_cases e : h.toNat = i
  · rw [if_pos e, ← e, List.getElem?_range (by omega), if_pos (by omega)]
    simp
    intro z; omega
  · rw [if_neg e]
    by_cases hi : i < (m - 0).toNat
    · rw [List.getElem?_range hi]
      simp
      intro z; omega
    · rw [List.getElem?_eq_none (by simpa using hi)]; rfl
theorem MR.new (M : MR F L P st0) (h0 : houseOk P.m h) (hk : k = maxAsk (P.w.log h) + 1) (hu : 1 ≤ u) (hb : ∀ x k, En.back x k ∈ P.w.log h → k ≤ maxAsk (P.w.log h))
    (hgt : ∀ x k o u, En.got x k o u ∈ P.w.log h → k ≤ maxAsk (P.w.log h)) (hno : ∀ x k o, En.no x k o ∈ P.w.log h → k ≤ maxAsk (P.w.log h))
    (ha : ∀ o, Live P o → o ≠ .last → o ≠ .hs h .claims → o ≠ .hs h .got → o ≠ .hs h .logs → st (P.loc o) = st0 (P.loc o))
    (hla : st (P.loc .last) = some (.lst ((lastD P).set h.toNat (.int k))))
    (hcl : st (P.loc (.hs h .claims)) = some (.dk (putKD kvs (.inr x) (.ref p1)))) (kl : kvs.length ≤ L) (kv : ∀ n, n ≠ x → valD kvs (.inr n) = if cur (P.w.log h) n then some (.ref (P.loc (.hs h (.clm n)))) else none)
    (tg : st0 (P.loc (.hs h .got)) = some (.dt tvs)) (hgo : st (P.loc (.hs h .got)) = some (.dt (putKD tvs [.inr x, .inl k] (.ref p2))))
    (hlo : st (P.loc (.hs h .logs)) = some (.lst ((P.w.log h).map En.d ++ [(En.ask x k p u).d])))
    (h1 : st p1 = some (.lst [.int k, .str p, .int u])) (h2 : st p2 = some (.dk [])) (f1 : st0 p1 = none) (f2 : st0 p2 = none) (h12 : p1 ≠ p2) (kp : Kp F st0 st) :
    To F (L + 1) P st0 (addE P.w h [.ask x k p u]) (P.newP h x (.ask x k p u) p1 p2) st := by
  have B := M.b
  have h0' : houseOk P.w.m h := by rw [B.mm]; exact h0
  have hk' : maxAsk (P.w.log h) < k := by omega
  obtain ⟨A1, A2, A3, A4⟩ := ask_new (x := x) (p := p) hk' hb hu
  have hmx : maxAsk (P.w.log h ++ [.ask x k p u]) = k := maxAsk_ask hk'
  have lq1 : ∀ o, Live P o → P.loc o ≠ p1 := fun o l z => M.some_ l (by rw [z]; exact f1)
  have lq2 : ∀ o, Live P o → P.loc o ≠ p2 := fun o l z => M.some_ l (by rw [z]; exact f2)
  have elog : ∀ h', houseOk P.m h' → (addE P.w h [.ask x k p u]).log h' = if h' = h then P.w.log h ++ [.ask x k p u] else P.w.log h' := fun h' hh => addE_log h0' hh.1
  have hcur : ∀ h' n, houseOk P.m h' → ¬ (h' = h ∧ n = x) → (cur ((addE P.w h [.ask x k p u]).log h') n ↔ cur (P.w.log h') n) := fun h' n hh ne => by
    rw [elog h' hh]
    by_cases e : h' = h
    · subst e
      rw [if_pos rfl]
      exact (ask_other (fun z => ne ⟨rfl, z.symm⟩)).2.1
    · rw [if_neg e]
  -- what lives
  have live : ∀ o, Live (P.newP h x (.ask x k p u) p1 p2) o → o = .hs h (.clm x) ∨ o = .hs h (.wrd x) ∨ (Live P o ∧ o ≠ .hs h (.clm x) ∧ o ≠ .hs h (.wrd x) ∧ o ≠ .hs h (.noe x)) := fun o l => by
    cases o with
    | hs h' hk =>
      cases hk with
      | clm n =>
        by_cases e : h' = h ∧ n = x
        · rw [e.1, e.2]; exact .inl rfl
        · exact .inr (.inr ⟨⟨l.1, (hcur h' n l.1 e).mp l.2⟩, fun z => e (by cases z; exact ⟨rfl, rfl⟩), fun z => (by cases z), fun z => (by cases z)⟩)
      | wrd n =>
        by_cases e : h' = h ∧ n = x
        · rw [e.1, e.2]; exact .inr (.inl rfl)
        · exact .inr (.inr ⟨⟨l.1, (hcur h' n l.1 e).mp l.2⟩, fun z => (by cases z), fun z => e (by cases z; exact ⟨rfl, rfl⟩), fun z => (by cases z)⟩)
      | noe n =>
        by_cases e : h' = h ∧ n = x
        · have := l.2.2
          rw [e.1, e.2, newP_nl] at this
          cases this
        · have l3 := l.2.2
          rw [newP_ne e] at l3
          exact .inr (.inr ⟨⟨l.1, (hcur h' n l.1 e).mp l.2.1, l3⟩, fun z => (by cases z), fun z => (by cases z), fun z => e (by cases z; exact ⟨rfl, rfl⟩)⟩)
      | _ => exact .inr (.inr ⟨l, fun z => (by cases z), fun z => (by cases z), fun z => (by cases z)⟩)
    | _ => exact .inr (.inr ⟨l, fun z => (by cases z), fun z => (by cases z), fun z => (by cases z)⟩)
  refine ⟨⟨fun o o' l l' e => ?_, fun o l => ?_, fun o l => ?_, fun b hb => by rw [kp b hb]; exact M.fs b hb, ⟨by show (addE P.w h _).m = P.m; rw [addE_m]; exact B.mm, by show P.w.nts.length = (P.w.logs.set _ _).length; rw [List.length_set]; exact B.nn, B.m1, B.m7, B.sd, B.cl, B.ps⟩⟩, rfl, rfl, newP_loc (fun z => by cases z) (fun z => by cases z), rfl, rfl, rfl, kp⟩
  · rcases live o l with rfl | rfl | ⟨l1, n1, n2, _⟩
    · rw [newP_c] at e
      rcases live o' l' with rfl | rfl | ⟨l2, n3, n4, _⟩
      · rfl
      · rw [newP_w] at e; exact absurd e h12
      · rw [newP_loc n3 n4] at e; exact absurd e.symm (lq1 _ l2)
    · rw [newP_w] at e
      rcases live o' l' with rfl | rfl | ⟨l2, n3, n4, _⟩
      · rw [newP_c] at e; exact absurd e.symm h12
      · rfl
      · rw [newP_loc n3 n4] at e; exact absurd e.symm (lq2 _ l2)
    · rw [newP_loc n1 n2] at e
      rcases live o' l' with rfl | rfl | ⟨l2, n3, n4, _⟩
      · rw [newP_c] at e; exact absurd e (lq1 _ l1)
      · rw [newP_w] at e; exact absurd e (lq2 _ l1)
      · rw [newP_loc n3 n4] at e; exact M.inj _ _ l1 l2 e
  · rcases live o l with rfl | rfl | ⟨l1, n1, n2, n3⟩
    · rw [newP_c]
      refine ⟨_, h1, ?_⟩
      show Cell.lst _ = .lst [.int (greatest ((addE P.w h [.ask x k p u]).log h) x), .str (perAt ((addE P.w h [.ask x k p u]).log h) x (greatest ((addE P.w h [.ask x k p u]).log h) x)), .int (tilAt ((addE P.w h [.ask x k p u]).log h) x (greatest ((addE P.w h [.ask x k p u]).log h) x))]
      rw [addE_log' h0', A1, A3, A4]
    · rw [newP_w]
      refine ⟨_, h2, ?_⟩
      show Cell.dk _ = .dk (encK .int (wordsAt ((addE P.w h _).log h) x (greatest ((addE P.w h _).log h) x))) ∧ (wordsAt ((addE P.w h _).log h) x (greatest ((addE P.w h _).log h) x)).length ≤ L + 1
      rw [addE_log' h0', A1, ask_words, words_above hgt hk']
      exact ⟨rfl, Nat.zero_le _⟩
    · rw [newP_loc n1 n2]
      obtain ⟨c, c1, c2⟩ := M.cells o l1
      cases o with
      | root => rw [ha _ l1 (fun z => by cases z) (fun z => by cases z) (fun z => by cases z) (fun z => by cases z)]; exact ⟨c, c1, by show c = _; rw [newP_root]; exact c2⟩
      | down => rw [ha _ l1 (fun z => by cases z) (fun z => by cases z) (fun z => by cases z) (fun z => by cases z)]; exact ⟨c, c1, c2⟩
      | yard => rw [ha _ l1 (fun z => by cases z) (fun z => by cases z) (fun z => by cases z) (fun z => by cases z)]; exact ⟨c, c1, c2⟩
      | last =>
        refine ⟨_, hla, ?_⟩
        show Cell.lst _ = .lst (lastD (P.newP h x (.ask x k p u) p1 p2))
        unfold lastD
        rw [set_rangeI h0]
        congr 1
        refine List.map_congr_left fun h' hh => ?_
        have hh := mem_rangeI.mp hh
        show _ = D.int (maxAsk ((addE P.w h _).log h'))
        rw [elog h' hh]
        by_cases e : h' = h
        · rw [if_pos e, if_pos e, hmx]
        · rw [if_neg e, if_neg e]
      | col kd =>
        rw [ha _ l1 (fun z => by cases z) (fun z => by cases z) (fun z => by cases z) (fun z => by cases z)]
        refine ⟨c, c1, ?_⟩
        have c2 : c = _ := c2
        show c = .lst (colD (P.newP h x (.ask x k p u) p1 p2) kd)
        rw [c2]
        unfold colD
        congr 1
        refine List.map_congr_left fun h' _ => ?_
        rw [newP_loc (fun z => by cases kd <;> cases z) (fun z => by cases kd <;> cases z)]
      | hs h' kd =>
        have hh := live_h l1
        by_cases e : h' = h
        · subst e
          show ∃ c, _ ∧ SpecH (L + 1) (P.newP h' x (.ask x k p u) p1 p2) h' ((addE P.w h' _).log h') (P.w.ntl h') kd c
          rw [addE_log' h0']
          cases kd with
          | logs =>
            obtain ⟨_, q2⟩ := c2
            refine ⟨_, hlo, ?_, ?_⟩
            · rw [List.map_append]; rfl
            · rw [List.length_append]; simp; omega
          | gave =>
            rw [ha _ l1 (fun z => by cases z) (fun z => by cases z) (fun z => by cases z) (fun z => by cases z)]
            obtain ⟨kvs', q1, q2, q3⟩ := c2
            exact ⟨c, c1, kvs', q1, by omega, fun n => by rw [q3, ask_wordIn]⟩
          | claims =>
            refine ⟨_, hcl, _, rfl, Nat.le_trans putKD_len (by omega), fun n => ?_⟩
            rw [valD_put]
            by_cases e : n = x
            · subst e
              rw [if_pos rfl, if_pos A2, newP_c]
            · rw [if_neg (fun z => e (by cases z; rfl)), kv n e, newP_loc (fun z => e (by cases z; rfl)) (fun z => by cases z)]
              have := (ask_other (es := P.w.log h') (k := k) (p := p) (u := u) (fun z => e z.symm : x ≠ n)).2.1
              simp only [this]
          | got =>
            obtain ⟨tvs', q1, q2, q3⟩ := c2
            subst q1
            rw [tg] at c1
            cases c1
            refine ⟨_, hgo, _, rfl, Nat.le_trans putKD_len (by omega), fun n hc => ?_⟩
            rw [valD_put]
            by_cases e : n = x
            · subst e
              rw [A1, if_pos rfl, newP_w]
            · have o := ask_other (es := P.w.log h') (k := k) (p := p) (u := u) (fun z => e z.symm : x ≠ n)
              rw [if_neg (fun z => e (by injection z with z1 z2; injection z1 with z1; exact z1.symm)), o.1, newP_loc (fun z => by cases z) (fun z => e (by cases z; rfl))]
              exact q3 n (o.2.1.mp hc)
          | noes =>
            rw [ha _ l1 (fun z => by cases z) (fun z => by cases z) (fun z => by cases z) (fun z => by cases z)]
            obtain ⟨tvs', q1, q2, q3, q4⟩ := c2
            refine ⟨c, c1, tvs', q1, by omega, fun n k' hk2 => q3 n k' (by rw [hmx] at hk2; omega), fun n hc => ?_⟩
            by_cases e : n = x
            · subst e
              rw [newP_nl, if_neg Bool.false_ne_true, A1, ask_noes, noes_above hno hk']
              exact ⟨q3 n k hk', rfl⟩
            · have o := ask_other (es := P.w.log h') (k := k) (p := p) (u := u) (fun z => e z.symm : x ≠ n)
              rw [newP_ne (fun z => e z.2), o.1, ask_noes, newP_loc (fun z => by cases z) (fun z => by cases z)]
              exact q4 n (o.2.1.mp hc)
          | notices =>
            rw [ha _ l1 (fun z => by cases z) (fun z => by cases z) (fun z => by cases z) (fun z => by cases z)]
            obtain ⟨ln, q1, q2, q3⟩ := c2
            exact ⟨c, c1, ln, q1, q2, by omega⟩
          | clm n =>
            have e : x ≠ n := fun z => n1 (by rw [z])
            have o := ask_other (es := P.w.log h') (k := k) (p := p) (u := u) e
            rw [ha _ l1 (fun z => by cases z) (fun z => by cases z) (fun z => by cases z) (fun z => by cases z)]
            refine ⟨c, c1, ?_⟩
            have c2 : c = _ := c2
            show c = .lst [.int (greatest _ n), .str (perAt _ n _), .int (tilAt _ n _)]
            rw [o.2.2.1, o.2.2.2, o.1]
            exact c2
          | wrd n =>
            have e : x ≠ n := fun z => n2 (by rw [z])
            have o := ask_other (es := P.w.log h') (k := k) (p := p) (u := u) e
            rw [ha _ l1 (fun z => by cases z) (fun z => by cases z) (fun z => by cases z) (fun z => by cases z)]
            refine ⟨c, c1, ?_⟩
            show c = .dk (encK .int (wordsAt _ n _)) ∧ (wordsAt _ n _).length ≤ L + 1
            rw [o.1, ask_words]
            exact ⟨c2.1, by have := c2.2; omega⟩
          | noe n =>
            have e : x ≠ n := fun z => n3 (by rw [z])
            have o := ask_other (es := P.w.log h') (k := k) (p := p) (u := u) e
            rw [ha _ l1 (fun z => by cases z) (fun z => by cases z) (fun z => by cases z) (fun z => by cases z)]
            refine ⟨c, c1, ?_⟩
            show c = .dk (encK .bl (noesAt _ n _)) ∧ (noesAt _ n _).length ≤ L + 1
            rw [o.1, ask_noes]
            exact ⟨c2.1, by have := c2.2; omega⟩
        · have ne : ∀ k', (Ow.hs h' kd) ≠ .hs h k' := fun k' z => e (by cases z; rfl)
          rw [ha _ l1 (fun z => by cases z) (ne _) (ne _) (ne _)]
          refine ⟨c, c1, ?_⟩
          show SpecH (L + 1) (P.newP h x (.ask x k p u) p1 p2) h' ((addE P.w h _).log h') (P.w.ntl h') kd c
          rw [elog h' hh, if_neg e]
          exact newP_specH e ((show SpecH L P h' _ _ kd c from c2).up (Nat.le_succ L))
  · rcases live o l with rfl | rfl | ⟨l1, n1, n2, n3⟩
    · rw [newP_c]; exact fun z => M.fs _ z f1
    · rw [newP_w]; exact fun z => M.fs _ z f2
    · rw [newP_loc n1 n2]; exact M.out o l1
end
end DL
namespace DL
open PySem PySem.Spec PyProof.Rows L2
section
variable {F : Addr → Prop} {L L' L3 : Nat} {P P' P2 : Pm} {st st' st2 st0 : Sto} {X : PoX} {Q : PoE} {E : WEnds} {h a b u k s now m : Int} {n x p : Str} {es fs : List En} {w w' : Wo} {c c1 : Cell} {kvs : List (Key × D)} {tvs : List (List Key × D)} {q : Addr} {ds : List D} {v : D}
theorem Sk.fresh (S : Sk P st) (hq : st q = none) : Sk P (st.set q c) := S.set (fun z => by rw [z, S.root] at hq; cases hq) fun k z => by rw [z, S.col k] at hq; cases hq
end
end DL
namespace DL
open PySem PySem.Spec PyProof.Rows L2
end DL
namespace DL
open PySem PySem.Spec PyProof.Rows L2
section
variable {F : Addr → Prop} {L L' L3 : Nat} {P P' P2 : Pm} {st st' st2 st0 : Sto} {X : PoX} {Q : PoE} {E : WEnds} {h a b u k s t now m : Int} {n x p : Str} {es fs : List En} {w w' : Wo} {c c1 : Cell} {l : Le} {ls : List Le} {no : Option Nt}
theorem To.up {L2 : Nat} (t : To F L P st w P' st') (h : L ≤ L2) : To F L2 P st w P' st' := ⟨t.mr.up h, t.w, t.m, t.r, t.cl, t.ps, t.sd, t.kp⟩
end
end DL
namespace DL
open PySem PySem.Spec PyProof.Rows L2
end DL
namespace DL
open PySem PySem.Spec PyProof.Rows L2
/-- a deed done -/
structure Dn (F : Addr → Prop) (L : Nat) (P : Pm) (st : Sto) (w : Wo) (P' : Pm) (st' : Sto) : Prop where
  mr : MR F L P' st'
  w : P'.w = w
  m : P'.m = P.m
  r : P'.loc .root = P.loc .root
  cl : P'.cl = P.cl
  ps : P'.ps = P.ps
  kp : Kp F st st'
/-- what a run's world keeps -/
structure Rn (n : Nat) (w : Wo) : Prop where
  ok : WOk n w
  got : GotOk w
  no : NoOk w
section
variable {F : Addr → Prop} {L L' L3 : Nat} {P P' P2 : Pm} {st st' st2 st0 : Sto} {X : PoX} {Q : PoE} {E : WEnds} {h a b u k s t now m : Int} {x p v v' : Str} {es fs : List En} {w w' : Wo} {c c1 c2 : Cell} {l : Le} {ls : List Le} {no : Option Nt} {A B : WS} {e : Env} {ad : Addr} {ds : List D} {d : D} {ns : List Int} {N : Nat} {o o1 o2 : Ow}
theorem Rn.log (R : Rn N w) (h0 : houseOk w.m h) : (∀ e ∈ w.log h, e.ok w.m) ∧ (∀ x k, En.back x k ∈ w.log h → k ≤ maxAsk (w.log h)) ∧ (∀ x k o u, En.got x k o u ∈ w.log h → k ≤ maxAsk (w.log h)) ∧ (∀ x k o, En.no x k o ∈ w.log h → k ≤ maxAsk (w.log h)) ∧ (∀ e ∈ w.log h, e.i4 ≤ w.now + w.term) :=
  ⟨(R.ok.log h0).ok, (R.ok.log h0).bk, R.got _ (log_at h0).2, R.no _ (log_at h0).2, R.ok.til _ (log_at h0).2⟩
theorem Rn.nd (R : Rn N w) (h0 : houseOk w.m h) : ((w.ntl h).map (·.n)).Nodup := ltT_nodup (R.ok.nts _ (ntl_at R.ok h0).2).1.1
theorem Rn.yd (R : Rn N w) (hN : N ≤ 4000) : w.yard.length < 700000 := by have := R.ok.ylen; omega
end
end DL
namespace DL
open PySem PySem.Spec PyProof.Rows L2
section
variable {F : Addr → Prop} {L L' L3 : Nat} {P P' P2 : Pm} {st st' st2 st0 : Sto} {X : PoX} {Q : PoE} {E : WEnds} {h a b u k s t now m : Int} {n x p v v' : Str} {es fs : List En} {w w' : Wo} {c c1 c2 : Cell} {l : Le} {ls : List Le} {no : Option Nt} {A B : WS} {e : Env} {ad q : Addr} {ds : List D} {d : D} {ns : List Int} {N : Nat} {o o1 o2 : Ow} {hk : Hk}
def Pm.fallP (P : Pm) (h : Int) (q : Addr) : Pm := { P with w := { P.w with nts := P.w.nts.set h.toNat [], down := sortI (P.w.down ++ [h]) }, loc := fun o => if o = .hs h .notices then q else P.loc o }
theorem fallP_loc (ho : o ≠ .hs h .notices) : (P.fallP h q).loc o = P.loc o := if_neg ho
theorem fallP_at : (P.fallP h q).loc (.hs h .notices) = q := if_pos rfl
theorem fallP_live : Live (P.fallP h q) o ↔ Live P o := by
  cases o with
  | hs h' k => cases k <;> exact Iff.rfl
  | _ => exact Iff.rfl
theorem fallP_root : rootK (P.fallP h q) = rootK P := by
  unfold rootK
  rw [fallP_loc (o := .down) (fun z => by cases z), fallP_loc (o := .yard) (fun z => by cases z), fallP_loc (o := .last) (fun z => by cases z)]
  have e : ∀ k, (P.fallP h q).loc (.col k) = P.loc (.col k) := fun k => fallP_loc (fun z => by cases z)
  rw [e, e, e, e, e, e]
  rfl
theorem fallP_specH {h' : Int} {nt : List Nt} (s : SpecH L P h' es nt hk c) : SpecH L (P.fallP h q) h' es nt hk c := by
  cases hk with
  | claims =>
    obtain ⟨kvs, h1, h2, h3⟩ := s
    exact ⟨kvs, h1, h2, fun n => by rw [h3, fallP_loc (fun z => by cases z)]⟩
  | got =>
    obtain ⟨kvs, h1, h2, h3⟩ := s
    exact ⟨kvs, h1, h2, fun n hc => by rw [h3 n hc, fallP_loc (fun z => by cases z)]⟩
  | noes =>
    obtain ⟨kvs, h1, h2, h3, h4⟩ := s
    refine ⟨kvs, h1, h2, h3, fun n hc => ?_⟩
    rw [fallP_loc (fun z => by cases z)]
    exact h4 n hc
  | _ => exact s
theorem fall_ntl {h' : Int} (hl : h.toNat < w.nts.length) (h0 : 0 ≤ h) (h1 : 0 ≤ h') : ({ w with nts := w.nts.set h.toNat [], down := ns } : Wo).ntl h' = if h' = h then [] else w.ntl h' := by
  show ((w.nts.set h.toNat [])[h'.toNat]?).getD [] = _
  rw [List.getElem?_set]
  by_cases e : h' = h
  · subst e; simp [hl]
  · rw [if_neg (by omega), if_neg e]; rfl
theorem MR.fall (M : MR F L P st) (h0 : houseOk P.m h) (d2 : ns.Perm P.w.down) (hq : st q = none) :
    MR F L (P.fallP h q) (((st.set (P.loc .down) (.lst ((ns ++ [h]).map .int))).set q (.dk [])).set (P.loc (.col .notices)) (.lst ((colD P .notices).set h.toNat (.ref q)))) ∧ Kp F st (((st.set (P.loc .down) (.lst ((ns ++ [h]).map .int))).set q (.dk [])).set (P.loc (.col .notices)) (.lst ((colD P .notices).set h.toNat (.ref q)))) := by
  have B := M.b
  have ld : Live P .down := trivial
  have lc : Live P (.col .notices) := trivial
  have lq : ∀ o, Live P o → P.loc o ≠ q := fun o l z => M.some_ l (by rw [z]; exact hq)
  have nf : ∀ o b, Live P o → F b → b ≠ P.loc o := fun o b l hb z => M.out o l (by rw [← z]; exact hb)
  have nq : ∀ b, F b → b ≠ q := fun b hb z => M.fs b hb (by rw [z]; exact hq)
  have kp : Kp F st (((st.set (P.loc .down) (.lst ((ns ++ [h]).map .int))).set q (.dk [])).set (P.loc (.col .notices)) (.lst ((colD P .notices).set h.toNat (.ref q)))) := fun b hb => by
    rw [Sto.set_ne (nf _ b lc hb), Sto.set_ne (nq b hb), Sto.set_ne (nf _ b ld hb)]
  refine ⟨⟨fun o o' l l' e => ?_, fun o l => ?_, fun o l => ?_, fun b hb => by rw [kp b hb]; exact M.fs b hb, ⟨B.mm, by show (P.w.nts.set _ _).length = P.w.logs.length; rw [List.length_set]; exact B.nn, B.m1, B.m7, B.sd, B.cl, B.ps⟩⟩, kp⟩
  · have l := fallP_live.mp l
    have l' := fallP_live.mp l'
    by_cases z : o = .hs h .notices
    · subst z
      rw [fallP_at] at e
      by_cases z' : o' = .hs h .notices
      · exact z'.symm
      · rw [fallP_loc z'] at e; exact absurd e.symm (lq o' l')
    · rw [fallP_loc z] at e
      by_cases z' : o' = .hs h .notices
      · subst z'; rw [fallP_at] at e; exact absurd e (lq o l)
      · rw [fallP_loc z'] at e; exact M.inj _ _ l l' e
  · have l := fallP_live.mp l
    by_cases z : o = .hs h .notices
    · subst z
      rw [fallP_at, Sto.set_ne (Ne.symm (lq _ lc)), Sto.set_same]
      refine ⟨_, rfl, [], rfl, ?_, Nat.zero_le _⟩
      have := fall_ntl (w := P.w) (ns := sortI (P.w.down ++ [h])) (B.nlt h0) h0.1 h0.1
      rw [if_pos rfl] at this
      show [].Perm (({ P.w with nts := P.w.nts.set h.toNat [], down := sortI (P.w.down ++ [h]) } : Wo).ntl h)
      rw [this]
    · rw [fallP_loc z]
      by_cases z1 : o = .down
      · subst z1
        refine ⟨_, by rw [Sto.set_ne (M.ne ld lc (fun z => by cases z)), Sto.set_ne (lq _ ld), Sto.set_same], ns ++ [h], rfl, ?_⟩
        exact (d2.append_right [h]).trans (sortI_perm _).symm
      · by_cases z2 : o = .col .notices
        · subst z2
          refine ⟨_, Sto.set_same, ?_⟩
          show Cell.lst _ = .lst (colD (P.fallP h q) .notices)
          unfold colD
          rw [set_rangeI h0]
          congr 1
          refine List.map_congr_left fun h' _ => ?_
          by_cases e : h' = h
          · subst e; rw [if_pos rfl]; exact congrArg D.ref fallP_at.symm
          · rw [if_neg e, fallP_loc (fun z => e (by cases z; rfl))]
        · rw [Sto.set_ne (M.ne l lc z2), Sto.set_ne (lq _ l), Sto.set_ne (M.ne l ld z1)]
          obtain ⟨c, c1, c2⟩ := M.cells o l
          refine ⟨c, c1, ?_⟩
          cases o with
          | root => show c = _; rw [fallP_root]; exact c2
          | down => exact absurd rfl z1
          | col k =>
            have c2 : c = _ := c2
            show c = .lst (colD (P.fallP h q) k)
            rw [c2]
            unfold colD
            congr 1
            refine List.map_congr_left fun h' _ => ?_
            rw [fallP_loc]
            cases k <;> first | exact absurd rfl z2 | exact fun z => by cases z
          | hs h' k =>
            have hh := live_h l
            show SpecH L (P.fallP h q) h' (P.w.log h') (({ P.w with nts := P.w.nts.set h.toNat [], down := sortI (P.w.down ++ [h]) } : Wo).ntl h') k c
            rw [fall_ntl (B.nlt h0) h0.1 hh.1]
            have c2 := fallP_specH (h := h) (q := q) (show SpecH L P h' (P.w.log h') (P.w.ntl h') k c from c2)
            by_cases e : h' = h
            · rw [if_pos e]
              exact c2.nt fun y => z (by rw [e, y])
            · rw [if_neg e]; exact c2
          | _ => exact c2
  · have l := fallP_live.mp l
    by_cases z : o = .hs h .notices
    · subst z; rw [fallP_at]; exact fun y => nq q y rfl
    · rw [fallP_loc z]; exact M.out o l
end
end DL
namespace DL
open PySem PySem.Spec PyProof.Rows L2
end DL
namespace DL
open PySem PySem.Spec PyProof.Rows L2
end DL
namespace DL
open PySem PySem.Spec PyProof.Rows L2
end DL
namespace DL
open PySem PySem.Spec PyProof.Rows L2
/-- the law's houses beside a well -/
structure GI (aw : Addr) (L : Nat) (P : Pm) (st : Sto) : Prop where
  mr : MR (fun b => b = aw) L P st
  wl : ∃ r, st aw = some (.lst r) ∧ WellOk r
section
variable {aw : Addr} {L L' : Nat} {P P' : Pm} {st st' st1 : Sto} {X : PoX} {Q : PoE} {k : Int}
theorem GI.keep (G : GI aw L P st) (G' : GI aw L P st') : GI aw L P (st'.keepOnly st) := by
  have e : ∀ b, st b ≠ none → (st'.keepOnly st) b = st' b := fun b hb => by
    unfold Sto.keepOnly
    rw [if_pos]
    cases h : st b with
    | none => exact absurd h hb
    | some _ => rfl
  have M := G.mr
  have M' := G'.mr
  refine ⟨⟨M'.inj, fun o l => by rw [e _ (M.some_ l)]; exact M'.cells o l, M'.out, fun b hb => by rw [e _ (M.fs b hb)]; exact M'.fs b hb, M'.b⟩, ?_⟩
  rw [e aw (M.fs aw rfl)]
  exact G'.wl
end
end DL
namespace DL
open PySem PySem.Spec PyProof.Rows L2
def Nm (cs : List Nat) : Prop := 1 ≤ cs.length ∧ cs.length ≤ 8 ∧ ∀ c ∈ cs, low c
section
variable {aw a : Addr} {L L' : Nat} {P P' : Pm} {st st' st1 : Sto} {X : PoX} {Q : PoE} {k : Int} {r : List D} {cs : List Nat}
theorem Nm.ok (h : Nm cs) : nameOk (txt cs) = true := nameOk_txt h.1 h.2.1 h.2.2
/-- the well drawn from, the names given -/
def CR (aw : Addr) (P : Pm) (st0 st : Sto) (cl ps : List Str) : Prop := ∃ r, WellOk r ∧ st = (st0.set aw (.lst r)).set (P.loc .root) (.dk (rootK { P with cl := cl, ps := ps }))
theorem CR.root {st0 : Sto} {cl ps : List Str} (c : CR aw P st0 st cl ps) : st (P.loc .root) = some (.dk (rootK { P with cl := cl, ps := ps })) := by
  obtain ⟨r, h1, rfl⟩ := c
  exact Sto.set_same
end
end DL
namespace DL
open PySem PySem.Spec PyProof.Rows L2
/-- cells laid one by one -/
structure Bl (F : Addr → Prop) (own : List (Ow × Addr × Cell)) (st0 st : Sto) : Prop where
  at_ : ∀ z ∈ own, st z.2.1 = some z.2.2
  nd : (own.map (·.2.1)).Nodup
  kp : Kp F st0 st
  fs : ∀ b, F b → st0 b ≠ none
  out : ∀ z ∈ own, ¬ F z.2.1
section
variable {F : Addr → Prop} {own own' : List (Ow × Addr × Cell)} {st0 st st' : Sto} {X : PoX} {Q : PoE} {E : WEnds} {p q : Addr} {c c' : Cell} {o : Ow} {m t : Int} {R : List (Key × D)} {k : Kd} {qs : List Addr}
theorem Bl.fresh (B : Bl F own st0 st) (h : st q = none) : (∀ z ∈ own, z.2.1 ≠ q) ∧ ¬ F q := ⟨fun z hz e => by rw [← e, B.at_ z hz] at h; (cases h), fun hF => by
  have := B.fs q hF
  rw [← B.kp q hF] at this
  exact this h⟩
theorem Bl.junk (B : Bl F own st0 st) (h : st q = none) : Bl F own st0 (st.set q c) := by
  obtain ⟨h1, h2⟩ := B.fresh h
  exact ⟨fun z hz => by rw [Sto.set_ne (h1 z hz)]; exact B.at_ z hz, B.nd, fun b hb => by rw [Sto.set_ne (fun z => h2 (by rw [← z]; exact hb))]; exact B.kp b hb, B.fs, B.out⟩
theorem Bl.new (B : Bl F own st0 st) (h : st q = none) : Bl F (own ++ [(o, q, c)]) st0 (st.set q c) := by
  obtain ⟨h1, h2⟩ := B.fresh h
  have J := B.junk (c := c) h
  refine ⟨fun z hz => ?_, ?_, J.kp, B.fs, fun z hz => ?_⟩
  · rcases List.mem_append.mp hz with hz | hz
    · exact J.at_ z hz
    · rw [List.mem_singleton.mp hz]; exact Sto.set_same
  · rw [List.map_append, List.nodup_append]
    refine ⟨B.nd, by simp, fun a ha b hb e => ?_⟩
    obtain ⟨z, hz, rfl⟩ := List.mem_map.mp ha
    simp at hb
    exact h1 z hz (e.trans hb)
  · rcases List.mem_append.mp hz with hz | hz
    · exact B.out z hz
    · rw [List.mem_singleton.mp hz]; exact h2
theorem Bl.put (B : Bl F ((o, p, c) :: own) st0 st) : Bl F ((o, p, c') :: own) st0 (st.set p c') := by
  have nd := B.nd
  rw [List.map_cons, List.nodup_cons] at nd
  have hp : ¬ F p := B.out (o, p, c) List.mem_cons_self
  refine ⟨fun z hz => ?_, by rw [List.map_cons, List.nodup_cons]; exact nd, fun b hb => by rw [Sto.set_ne (fun z => hp (by rw [← z]; exact hb))]; exact B.kp b hb, B.fs, fun z hz => ?_⟩
  · rcases List.mem_cons.mp hz with rfl | hz
    · exact Sto.set_same
    · rw [Sto.set_ne (fun e => nd.1 (List.mem_map.mpr ⟨z, hz, e⟩))]
      exact B.at_ z (List.mem_cons_of_mem _ hz)
  · rcases List.mem_cons.mp hz with rfl | hz
    · exact hp
    · exact B.out z (List.mem_cons_of_mem _ hz)
variable {p1 p2 pl : Addr} {qc : Kd → Addr} {qs' : Kd → List Addr} {h : Int} {n : Str}
end
end DL
namespace DL
open PySem PySem.Spec PyProof.Rows L2
end DL
namespace DL
open PySem PySem.Spec PyProof.Rows L2
mutual
def pyD : D → Option PyData
  | .non => some .none
  | .bl b => some (.bool b)
  | .int i => some (.int i)
  | .str x => some (.str x)
  | .tup ds => (pyDs ds).map .tuple
  | .lst ds => (pyDs ds).map .list
  | _ => none
def pyDs : List D → Option (List PyData)
  | [] => some []
  | d :: ds => (pyD d).bind fun p => (pyDs ds).map fun ps => p :: ps
end
def signOk (x : Str) : Prop := ∀ c ∈ x.cps.toList, c < 0x110000
theorem signOk_iff {x : Str} : signOk x ↔ okS x = true := by
  unfold signOk okS PyData.strOk
  rw [← Array.all_toList, List.all_eq_true]
  simp
theorem char_lt (c : Char) : c.toNat < 0x110000 := by
  have h := c.valid
  have h' : c.val.toNat < 55296 ∨ (57343 < c.val.toNat ∧ c.val.toNat < 1114112) := h
  show c.val.toNat < _
  omega
theorem signOk_str (x : String) : signOk (Str.ofString x) := by
  intro c hc
  rw [signs_ofString] at hc
  obtain ⟨ch, _, e⟩ := List.mem_map.mp hc
  rw [← e]
  exact char_lt ch
end DL
namespace DL
open PySem PySem.Spec PyProof.Rows L2
end DL
namespace DL
open PySem PySem.Spec PyProof.Rows L2
def En.num : En → Int
  | .ask _ k _ _ => k | .got _ k _ _ => k | .no _ k _ => k | .back _ k => k | .word _ _ k _ => k | .free _ _ k => k
def Le.num : Le → Int
  | .ask _ _ _ k _ _ => k | .word _ _ _ k _ => k | .no _ _ _ k => k | .back _ _ _ k => k | .told _ _ _ k _ _ => k
/-- the round that a told letter tells -/
def toldU : Le → Int
  | .told _ _ _ _ _ u => u | _ => 0
structure NtB (m B T : Int) (z : Nt) : Prop where
  h : houseOk m z.h
  k : 1 ≤ z.k ∧ z.k ≤ B
  p : nameOk z.p = true
  u : 0 ≤ z.u ∧ z.u ≤ T
theorem NtB.up {m B T B' T' : Int} {z : Nt} (a : NtB m B T z) (hb : B ≤ B') (ht : T ≤ T') : NtB m B' T' z := ⟨a.h, ⟨a.k.1, by have := a.k.2; omega⟩, a.p, a.u.1, by have := a.u.2; omega⟩
structure NB (n : Nat) (w : Wo) : Prop where
  now : w.now ≤ n
  term : w.term ≤ 9
  lg : ∀ es ∈ w.logs, ∀ e ∈ es, e.num ≤ n
  yd : ∀ l ∈ w.yard, l.num ≤ n ∧ toldU l ≤ w.now
  nt : ∀ l ∈ w.nts, ∀ z ∈ l, NtB w.m n w.now z
  sd : w.side.length ≤ 7 ∧ ∀ h ∈ w.side, houseOk w.m h
section
variable {w : Wo} {n n' : Nat} {h k s u m now B : Int} {x : Str} {es : List En} {ls : List Le} {no : Option Nt} {l : Le}
theorem NB.mono (a : NB n w) (h : n ≤ n') : NB n' w := ⟨by have := a.now; omega, a.term, fun es he e h1 => by have := a.lg es he e h1; omega, fun l hl => ⟨by have := (a.yd l hl).1; omega, (a.yd l hl).2⟩, fun l hl z hz => (a.nt l hl z hz).up (by omega) (by omega), a.sd⟩
theorem insNt_mem {z y : Nt} : ∀ {l : List Nt}, y ∈ insNt z l → y = z ∨ y ∈ l
  | [], h => by simp only [insNt, List.mem_cons, List.not_mem_nil, or_false] at h; exact .inl h
  | a :: r, h => by
    unfold insNt at h
    split at h
    · rcases List.mem_cons.mp h with h | h
      · exact .inl h
      · exact .inr h
    · rcases List.mem_cons.mp h with h | h
      · exact .inr (by rw [h]; exact List.mem_cons_self)
      · rcases insNt_mem h with h | h
        · exact .inl h
        · exact .inr (List.mem_cons_of_mem _ h)
theorem keepN_mem {y : Nt} {l : List Nt} (h : y ∈ keepN l no) : no = some y ∨ y ∈ l := by
  cases no with
  | none => exact .inr h
  | some z =>
    unfold keepN at h
    dsimp only at h
    split at h
    · rcases insNt_mem h with h | h
      · exact .inl (by rw [h])
      · exact .inr h
    · split at h
      · obtain ⟨o, h1, h2⟩ := List.mem_map.mp h
        split at h2
        · exact .inl (by rw [h2])
        · exact .inr (by rw [← h2]; exact h1)
      · exact .inr h
theorem log_num (a : NB n w) (h0 : houseOk w.m h) : ∀ e ∈ w.log h, e.num ≤ n := a.lg _ (log_at h0).2
theorem moved_nb (a : NB n w) (hn : n ≤ n') (h0 : houseOk w.m h) (hnl : w.nts.length = w.logs.length) (he : ∀ e ∈ es, e.num ≤ n') (hl : ∀ l ∈ ls, l.num ≤ n' ∧ toldU l ≤ w.now) (hz : ∀ z, no = some z → NtB w.m n' w.now z) : NB n' (movedW w h es ls no) := by
  have hm : (movedW w h es ls no).m = w.m := by unfold Wo.m movedW; simp
  refine ⟨by have := a.now; show w.now ≤ _; omega, a.term, fun f hf e h1 => ?_, fun l h1 => ?_, fun l h1 z h2 => ?_, by rw [hm]; exact a.sd⟩
  · rcases List.mem_or_eq_of_mem_set (show f ∈ w.logs.set _ _ from hf) with hf | hf
    · have := a.lg f hf e h1; omega
    · rw [hf] at h1
      rcases List.mem_append.mp h1 with h1 | h1
      · have := log_num a h0 e h1; omega
      · exact he e h1
  · rcases List.mem_append.mp (show l ∈ w.yard ++ ls from h1) with h1 | h1
    · exact ⟨by have := (a.yd l h1).1; omega, (a.yd l h1).2⟩
    · exact hl l h1
  · rw [hm]
    show NtB w.m n' w.now z
    rcases List.mem_or_eq_of_mem_set (show l ∈ w.nts.set _ _ from h1) with h1 | h1
    · exact (a.nt l h1 z h2).up (by omega) (by omega)
    · rw [h1] at h2
      rcases keepN_mem h2 with h2 | h2
      · exact hz z h2
      · refine (a.nt _ ?_ z h2).up (by omega) (by omega)
        obtain ⟨a1, a2⟩ := h0
        have h3 : h.toNat < w.nts.length := by unfold Wo.m at a2; omega
        unfold Wo.ntl
        rw [List.getElem?_eq_getElem h3]
        exact List.getElem_mem h3
theorem greatest_num (hB : 0 ≤ B) (he : ∀ e ∈ es, e.num ≤ B) : greatest es x ≤ B := by
  unfold greatest
  rcases maxL_mem (askedNums es x) 0 with h | h
  · rw [h]; exact hB
  · obtain ⟨e, h1, h2⟩ := List.mem_map.mp (show maxL 0 (askedNums es x) ∈ (entsOf es "ask" x).map En.i2 from h)
    rw [← h2]
    have k1 := (ents_kind h1)
    have := he e k1.1
    cases e <;> first | exact this | (exfalso; revert k1; simp [En.kind]; done)
theorem maxAsk_num (hB : 0 ≤ B) (he : ∀ e ∈ es, e.num ≤ B) : maxAsk es ≤ B := by
  rcases maxL_mem ((es.filter fun e => decide (e.kind = "ask")).map En.i2) 0 with h | h
  · have e : maxAsk es = maxL 0 ((es.filter fun e => decide (e.kind = "ask")).map En.i2) := rfl
    rw [e, h]; exact hB
  · have e : maxAsk es = maxL 0 ((es.filter fun e => decide (e.kind = "ask")).map En.i2) := rfl
    rw [e]
    obtain ⟨e, h1, h2⟩ := List.mem_map.mp h
    rw [← h2]
    obtain ⟨h3, h4⟩ := List.mem_filter.mp h1
    have := he e h3
    cases e <;> first | exact this | (exfalso; revert h4; simp [En.kind]; done)
theorem own_num : ∀ e ∈ ownWord es h x k u now, e.num = k := by
  unfold ownWord
  split
  · intro e he
    simp at he
    rcases he with rfl | rfl <;> rfl
  · split
    · split
      · intro e he; cases he
      · intro e he
        rw [List.mem_singleton.mp he]; rfl
    · intro e he; cases he
theorem claim_numB {c : Cl} (hok : ∀ e ∈ es, e.ok m) (hB : 0 ≤ B) (he : ∀ e ∈ es, e.num ≤ B) (hc : claimOf es x = some c) : c.num ≤ B := by
  rw [(claim_facts hok hc).1]
  exact greatest_num hB he
theorem news_nb {more : List En} {T : Int} (hok : ∀ e ∈ es ++ more, e.ok m) (h0 : houseOk m h) (hx : nameOk x = true) (hB : 0 ≤ B) (he : ∀ e ∈ es ++ more, e.num ≤ B) (hn : 0 ≤ now) (hT : now ≤ T) :
    (∀ l ∈ (newsOf m h es more x now).2, l.num ≤ B ∧ toldU l ≤ T) ∧ ∀ z, (newsOf m h es more x now).1 = some z → NtB m B T z := by
  unfold newsOf
  split
  · exact ⟨fun l hl => (by cases hl), fun z hz => (by cases hz)⟩
  · split
    · exact ⟨fun l hl => (by cases hl), fun z hz => (by cases hz)⟩
    · rename_i c hc
      obtain ⟨_, c1, _, c2⟩ := claim_facts hok hc
      have c3 := claim_numB hok hB he hc
      refine ⟨fun l hl => ?_, fun z hz => ?_⟩
      · obtain ⟨o, ho, rfl⟩ := List.mem_map.mp hl
        exact ⟨c3, hT⟩
      · cases hz
        exact ⟨h0, ⟨c1, c3⟩, c2, hn, hT⟩
theorem asked_nb {p : Str} (ok : WOk n w) (a : NB n w) (hn : n ≤ n') (h0 : houseOk w.m h) (hx : nameOk x = true) (hp : nameOk p = true) (hk : 1 ≤ k) (hk' : k ≤ n') : NB n' (askedW w h x k p) := by
  have nw := ok.now
  have tm := ok.term
  have lo := ok.log h0
  have ln := log_num a h0
  unfold askedW
  dsimp only
  have hok2 : ∀ e ∈ w.log h ++ [En.ask x k p (w.now + w.term)], e.ok w.m := ok_app lo.ok (by
    intro e he
    rw [List.mem_singleton] at he
    subst he
    exact ⟨hx, hk, by omega, hp⟩)
  have hwo := ownWord_ok (es := w.log h ++ [En.ask x k p (w.now + w.term)]) (h := h) (x := x) (k := k) (u := w.now + w.term) (now := w.now) (m := w.m) hx hk h0 (by omega)
  have hon := own_num (es := w.log h ++ [En.ask x k p (w.now + w.term)]) (h := h) (x := x) (k := k) (u := w.now + w.term) (now := w.now)
  have nn := news_nb (B := n') (T := w.now) (ok_app hok2 hwo) h0 hx (by omega) (fun e he => by
    rcases List.mem_append.mp he with he | he
    · rcases List.mem_append.mp he with he | he
      · have := ln e he; omega
      · rw [List.mem_singleton.mp he]; exact hk'
    · rw [hon e he]; exact hk') nw (Int.le_refl _)
  refine moved_nb a hn h0 ok.nl.symm.symm ?_ ?_ nn.2
  · intro e he
    rcases List.mem_cons.mp he with rfl | he
    · exact hk'
    · rw [hon e he]; exact hk'
  · intro l hl
    rcases List.mem_append.mp hl with hl | hl
    · obtain ⟨o, ho, rfl⟩ := List.mem_map.mp hl
      exact ⟨hk', nw⟩
    · exact nn.1 l hl
theorem taken_nb {T : Int} (lo : ∀ e ∈ es, e.ok m) (ln : ∀ e ∈ es, e.num ≤ B) (hB : 0 ≤ B) (lok : LeOk m l) (ll : l.num ≤ B) (hu : toldU l ≤ T) (nw : 0 ≤ now) (hT : now ≤ T) :
    (∀ e ∈ (taken m l.to es l now).es, e.num ≤ B) ∧ (∀ l' ∈ (taken m l.to es l now).ls, l'.num ≤ B ∧ toldU l' ≤ T) ∧ ∀ z, (taken m l.to es l now).nt = some z → NtB m B T z := by
  cases l with
  | ask s t n k p u =>
    refine ⟨fun e he => ?_, fun l' hl => ?_, fun z hz => (by cases hz)⟩
    · change e ∈ (askTaken t es s n k u now).1 at he
      unfold askTaken at he
      split at he
      · cases he
      split at he
      · rw [List.mem_singleton.mp he]; exact ll
      split at he
      · cases he
      split at he <;> cases he
    · change l' ∈ (askTaken t es s n k u now).2 at hl
      unfold askTaken at hl
      split at hl
      · cases hl
      split at hl
      · rw [List.mem_singleton.mp hl]; exact ⟨ll, Int.le_trans nw hT⟩
      split at hl
      · cases hl
      split at hl
      · rw [List.mem_singleton.mp hl]; exact ⟨ll, Int.le_trans nw hT⟩
      · rw [List.mem_singleton.mp hl]; exact ⟨ll, Int.le_trans nw hT⟩
  | word s t n k u =>
    show (∀ e ∈ (wordTaken m t es s n k u now).es, e.num ≤ B) ∧ (∀ l' ∈ (wordTaken m t es s n k u now).ls, l'.num ≤ B ∧ toldU l' ≤ T) ∧ ∀ z, (wordTaken m t es s n k u now).nt = some z → NtB m B T z
    have ll' : k ≤ B := ll
    obtain ⟨q1, q2, q3, q4, q5, q6⟩ := lok
    unfold wordTaken
    split
    · refine ⟨fun e he => (by cases he), fun l' hl => ?_, fun z hz => (by cases hz)⟩
      rw [List.mem_singleton.mp hl]; exact ⟨ll', Int.le_trans nw hT⟩
    · split
      · refine ⟨fun e he => (by cases he), fun l' hl => ?_, fun z hz => (by cases hz)⟩
        rw [List.mem_singleton.mp hl]; exact ⟨ll', Int.le_trans nw hT⟩
      · split
        · exact ⟨fun e he => (by cases he), fun l' hl => (by cases hl), fun z hz => (by cases hz)⟩
        · have nn := news_nb (es := es) (more := [En.got n k s u]) (x := n) (h := t) (B := B) (T := T) (m := m) (now := now) (ok_app lo (by
            intro e he
            rw [List.mem_singleton.mp he]
            exact ⟨q4, q5, q1.1, q1.2, q6⟩)) q2 q4 hB (fun e he => by
              rcases List.mem_append.mp he with he | he
              · exact ln e he
              · rw [List.mem_singleton.mp he]; exact ll') nw hT
          exact ⟨fun e he => by rw [List.mem_singleton.mp he]; exact ll', nn.1, nn.2⟩
  | no s t n k =>
    refine ⟨fun e he => ?_, fun l' hl => (by cases hl), fun z hz => (by cases hz)⟩
    change e ∈ noTaken es s n k at he
    unfold noTaken at he
    split at he
    · cases he
    split at he
    · cases he
    · rw [List.mem_singleton.mp he]; exact ll
  | back s t n k =>
    refine ⟨fun e he => ?_, fun l' hl => (by cases hl), fun z hz => (by cases hz)⟩
    change e ∈ backTaken es s n k at he
    unfold backTaken at he
    split at he
    · cases he
    split at he
    · rw [List.mem_singleton.mp he]; exact ll
    · cases he
  | told s t n k p u =>
    refine ⟨fun e he => (by cases he), fun l' hl => (by cases hl), fun z hz => ?_⟩
    cases hz
    obtain ⟨q1, q2, q3, q4, q5, q6, q7⟩ := lok
    exact ⟨q1, ⟨q5, ll⟩, q6, q7, hu⟩
theorem nb_behind {e : De} (ok : WOk n w) (he : e.ok w.m) (hr : refusal w e = none) (a : NB n w) : NB (n + 1) (behindW w e) := by
  have nw := ok.now
  have tm := ok.term
  have a1 := a.mono (n' := n + 1) (by omega)
  cases e with
  | claim h x p =>
    have mn := maxAsk_nn (es := w.log h)
    have := maxAsk_num (B := n) (by omega) (log_num a he.1)
    exact asked_nb ok a (by omega) he.1 he.2.1 he.2.2 (by omega) (by omega)
  | renew h x =>
    show NB (n + 1) (match claimOf (w.log h) x with | none => w | some c => askedW w h x c.num c.per)
    split
    · exact a1
    · rename_i c hcl
      obtain ⟨c1, c2, c3, c4⟩ := claim_facts (ok.log he.1).ok hcl
      have := claim_numB (B := n) (ok.log he.1).ok (by omega) (log_num a he.1) hcl
      exact asked_nb ok a (by omega) he.1 he.2 c4 c2 (by omega)
  | back h x =>
    show NB (n + 1) (backW w h x)
    unfold backW
    split
    · exact a1
    · rename_i c hcl
      have cn := claim_numB (B := n) (ok.log he.1).ok (by omega) (log_num a he.1) hcl
      refine moved_nb a (by omega) he.1 ok.nl ?_ ?_ (fun z hz => by cases hz)
      · intro e h1
        rcases List.mem_cons.mp h1 with rfl | h1
        · show c.num ≤ _; omega
        · split at h1
          · split at h1
            · rw [List.mem_singleton.mp h1]; show c.num ≤ _; omega
            · cases h1
          · cases h1
      · intro l hl
        obtain ⟨o, ho, rfl⟩ := List.mem_map.mp hl
        refine ⟨?_, nw⟩
        show c.num ≤ _; omega
  | carry k =>
    show NB (n + 1) (carriedW w k)
    unfold carriedW
    split
    · exact a1
    · rename_i l h2
      have h3 := List.mem_of_getElem? h2
      have lok := ok.yard l h3
      have h0 := lok.hs.2.1
      obtain ⟨t1, t2, t3⟩ := taken_nb (B := ((n + 1 : Nat) : Int)) (T := w.now) (ok.log h0).ok (log_num a1 h0) (by omega) lok (a1.yd l h3).1 (a1.yd l h3).2 nw (Int.le_refl _)
      refine moved_nb (w := { w with yard := w.yard.eraseIdx k.toNat }) (n := n + 1) ⟨a1.now, a1.term, a1.lg, fun l' hl => a1.yd l' (List.mem_of_mem_eraseIdx hl), a1.nt, a1.sd⟩ (Nat.le_refl _) h0 ok.nl t1 t2 t3
  | copy k =>
    show NB (n + 1) (copyW w k)
    unfold copyW
    split
    · exact a1
    · rename_i l h2
      exact ⟨a1.now, a1.term, a1.lg, fun l' hl => by
        rcases List.mem_append.mp hl with hl | hl
        · exact a1.yd l' hl
        · rw [List.mem_singleton.mp hl]; exact a1.yd l (List.mem_of_getElem? h2), a1.nt, a1.sd⟩
  | lose k => exact ⟨a1.now, a1.term, a1.lg, fun l' hl => a1.yd l' (List.mem_of_mem_eraseIdx hl), a1.nt, a1.sd⟩
  | fall h =>
    refine ⟨a1.now, a1.term, a1.lg, a1.yd, fun l hl z hz => ?_, a1.sd⟩
    rcases List.mem_or_eq_of_mem_set (show l ∈ w.nts.set _ _ from hl) with hl | hl
    · exact a1.nt l hl z hz
    · rw [hl] at hz; cases hz
  | rise h => exact ⟨a1.now, a1.term, a1.lg, a1.yd, a1.nt, a1.sd⟩
  | part s =>
    have m7 := ok.m7
    exact ⟨a1.now, a1.term, a1.lg, a1.yd, a1.nt, by have := he.2.2.1; show s.length ≤ 7; omega, fun h hh => he.1 h hh⟩
  | heal => exact ⟨a1.now, a1.term, a1.lg, a1.yd, a1.nt, Nat.zero_le _, fun h hh => by cases hh⟩
  | round =>
    have e1 : w.now ≤ (behindW w .round).now := by show w.now ≤ w.now + 1; omega
    refine ⟨?_, a1.term, a1.lg, fun l hl => ⟨(a1.yd l hl).1, Int.le_trans (a1.yd l hl).2 e1⟩, fun l hl z hz => (a1.nt l hl z hz).up (Int.le_refl _) e1, a1.sd⟩
    have := a.now; show w.now + 1 ≤ _; omega
theorem nb0 {t : Int} (ht : t ≤ 9) : NB 0 (w0 m t) := by
  refine ⟨Int.le_refl _, ht, fun es he e h1 => ?_, fun l hl => (by cases hl), fun l hl z hz => ?_, Nat.zero_le _, fun h hh => by cases hh⟩
  · have := List.eq_of_mem_replicate (show es ∈ List.replicate _ _ from he)
    rw [this] at h1; cases h1
  · have := List.eq_of_mem_replicate (show l ∈ List.replicate _ _ from hl)
    rw [this] at hz; cases hz
end
/-- a thing's repr, bounded -/
def SD (W K : Nat) (d : D) : Prop := ∃ p, pyD d = some p ∧ p.canLay0 = true ∧ p.showable = true ∧ p.intsShort 20 = true ∧ p.weight ≤ W ∧ p.depth ≤ K
def SDs (W K : Nat) (ds : List D) : Prop := ∃ ps, pyDs ds = some ps ∧ PyData.canLayAll0 ps = true ∧ PyData.showableAll ps = true ∧ PyData.intsShortAll 20 ps = true ∧ PyData.weightAll ps ≤ W ∧ PyData.depthAll ps ≤ K
section
variable {W W' K K' : Nat} {d : D} {ds : List D}
theorem SD.mono (h : SD W K d) (hw : W ≤ W') (hk : K ≤ K') : SD W' K' d := by
  obtain ⟨p, e, a, b, c, x, y⟩ := h
  exact ⟨p, e, a, b, c, by omega, by omega⟩
theorem SD.int {i : Int} (h0 : 0 ≤ i) (h1 : i ≤ 1000000) : SD 20 0 (.int i) := by
  have hl : i.natAbs.log2 < 20 := by
    by_cases h : i.natAbs = 0
    · rw [h]; decide
    · rw [Nat.log2_lt h]; omega
  refine ⟨.int i, rfl, rfl, ?_, ?_, ?_, Nat.le_refl _⟩
  · show decide (i.natAbs.log2 < 1920) = true
    exact decide_eq_true (by omega)
  · show decide ((PyData.shown (.int i)).length ≤ 20) = true
    refine decide_eq_true ?_
    have := int_text_length_le10 (a := i) (k := 7) (by decide) (by omega)
    have e : (PyData.shown (.int i)).length = (toString i).length := by
      rw [PyData.shown_int]
      show (Str.ofString (toString i)).cps.size = _
      have : (Str.ofString (toString i)).cps.toList.length = (toString i).length := by
        rw [signs_ofString, List.length_map]; rfl
      simpa using this
    omega
  · show (if i == 0 then 0 else i.natAbs.log2 + 1) ≤ 20
    split <;> omega
theorem SD.str {x : Str} (h : nameOk x = true) : SD 8 0 (.str x) := by
  unfold nameOk at h
  simp only [Bool.and_eq_true, decide_eq_true_eq] at h
  obtain ⟨⟨h1, h2⟩, h3⟩ := h
  refine ⟨.str x, rfl, ?_, rfl, rfl, ?_, Nat.le_refl _⟩
  · show PyData.strOk x = true
    refine signOk_iff.mp fun c hc => ?_
    have := List.all_eq_true.mp h3 c hc
    simp only [Bool.and_eq_true, decide_eq_true_eq] at this
    omega
  · show x.cps.size ≤ 8
    exact h2
theorem SD.lit {x : String} (h : (Str.ofString x).length ≤ 8 := by decide) : SD 8 0 (.str (Str.ofString x)) := by
  refine ⟨.str (Str.ofString x), rfl, ?_, rfl, rfl, h, Nat.le_refl _⟩
  show PyData.strOk _ = true
  exact signOk_iff.mp (signOk_str x)
theorem SDs.nil : SDs 0 0 [] := ⟨[], rfl, rfl, rfl, rfl, Nat.le_refl _, Nat.le_refl _⟩
theorem SDs.cons (h : SD W K d) (h' : SDs W' K' ds) : SDs (W + 1 + W') (max K K') (d :: ds) := by
  obtain ⟨p, e, a, b, c, x, y⟩ := h
  obtain ⟨ps, e', a', b', c', x', y'⟩ := h'
  refine ⟨p :: ps, by simp [pyDs, e, e'], by simp [PyData.canLayAll0, a, a'], by simp [PyData.showableAll, b, b'], by simp [PyData.intsShortAll, c, c'], ?_, ?_⟩
  · simp only [PyData.weightAll]; omega
  · simp only [PyData.depthAll]; omega
theorem SDs.mono (h : SDs W K ds) (hw : W ≤ W') (hk : K ≤ K') : SDs W' K' ds := by
  obtain ⟨p, e, a, b, c, x, y⟩ := h
  exact ⟨p, e, a, b, c, by omega, by omega⟩
theorem SDs.all : ∀ {ds : List D}, (∀ d ∈ ds, SD W K d) → SDs ((W + 1) * ds.length) K ds
  | [], _ => SDs.nil.mono (by simp) (Nat.zero_le _)
  | d :: ds, h => (SDs.cons (h d List.mem_cons_self) (SDs.all fun d hd => h d (List.mem_cons_of_mem _ hd))).mono (by rw [List.length_cons, Nat.mul_add]; omega) (by omega)
theorem SDs.tup (h : SDs W K ds) : SD W (K + 1) (.tup ds) := by
  obtain ⟨ps, e, a, b, c, x, y⟩ := h
  refine ⟨.tuple ps, by simp [pyD, e], by simpa [PyData.canLay0] using a, by simpa [PyData.showable] using b, by simpa [PyData.intsShort] using c, by simpa [PyData.weight] using x, by simp [PyData.depth]; omega⟩
theorem SDs.lst (h : SDs W K ds) : SD W (K + 1) (.lst ds) := by
  obtain ⟨ps, e, a, b, c, x, y⟩ := h
  refine ⟨.list ps, by simp [pyD, e], by simpa [PyData.canLay0] using a, by simpa [PyData.showable] using b, by simpa [PyData.intsShort] using c, by simpa [PyData.weight] using x, by simp [PyData.depth]; omega⟩
end
end DL
namespace DL
open PySem PySem.Spec PyProof.Rows L2
end DL
namespace DL
open PySem PySem.Spec PyProof.Rows L2
/-- what such a run keeps -/
structure RJ (a : Addr) (m : Int) (root : Addr) (n : Nat) (P : Pm) (st : Sto) : Prop where
  gi : GI a (6 * n) P st
  rn : Rn n P.w
  nb : NB n P.w
  m : P.m = m
  r : P.loc .root = root
section
variable {st : Sto} {X : PoX} {Q : PoE} {w : Wo} {n : Nat} {a : Addr} {r : List D} {m : Int} {root : Addr} {P P' : Pm} {st' : Sto} {e : De} {F : Addr → Prop} {L : Nat}
theorem RJ.start {t : Int} (G : GI a 0 P st) (hw : P.w = w0 P.m t) (t2 : 2 ≤ t) (t9 : t ≤ 9) : RJ a P.m (P.loc .root) 0 P st := ⟨G, by rw [hw]; exact ⟨w0_ok G.mr.b.m1 G.mr.b.m7 t2, got0, no0⟩, by rw [hw]; exact nb0 t9, rfl, rfl⟩
theorem RJ.ok (I : RJ a m root n P st) (he : e.ok P.m) : e.ok P.w.m := by rw [I.gi.mr.b.mm]; exact he
theorem RJ.step (I : RJ a m root n P st) (he : e.ok P.m) (hr : refusal P.w e = none) (D' : Dn (fun b => b = a) (6 * n + 6) P st (behindW P.w e) P' st') : RJ a m root (n + 1) P' st' := by
  have he' : e.ok P.w.m := I.ok he
  refine ⟨⟨by rw [Nat.mul_add]; exact D'.mr, ?_⟩, ?_, ?_, D'.m.trans I.m, D'.r.trans I.r⟩
  · obtain ⟨r, h1, h2⟩ := I.gi.wl
    exact ⟨r, by rw [D'.kp a rfl]; exact h1, h2⟩
  · rw [D'.w]
    exact ⟨behind_ok I.rn.ok he' hr, got_behind I.rn.ok he' hr I.rn.got, no_behind I.rn.ok he' hr I.rn.no⟩
  · rw [D'.w]
    exact nb_behind I.rn.ok he' hr I.nb
theorem RJ.mono (I : RJ a m root n P st) : RJ a m root (n + 1) P st := ⟨⟨I.gi.mr.up (by omega), I.gi.wl⟩, ⟨I.rn.ok.mono, I.rn.got, I.rn.no⟩, I.nb.mono (by omega), I.m, I.r⟩
theorem RJ.to (I : RJ a m root n P st) (h : n ≤ k) : RJ a m root k P st := by
  induction h with
  | refl => exact I
  | step _ ih => exact ih.mono
end
end DL
namespace DL
open PySem PySem.Spec PyProof.Rows L2
section
variable {w w' : Wo} {n : Nat} {h o k u now now' : Int} {x p : Str} {es fs : List En} {e : En} {ls : List Le} {dd dd' : Int → Str → Int → Prop}
theorem great_app : ∀ {fs es : List En}, greatest es x ≤ greatest (es ++ fs) x
  | [], es => by rw [List.append_nil]; exact Int.le_refl _
  | e :: fs, es => by
    have h1 : greatest es x ≤ greatest (es ++ [e]) x := by
      rw [greatest_snoc]
      split
      · rename_i h; have := h.2.2; omega
      · exact Int.le_refl _
    have h2 : greatest (es ++ [e]) x ≤ greatest ((es ++ [e]) ++ fs) x := great_app
    rw [List.append_assoc, List.singleton_append] at h2
    exact Int.le_trans h1 h2
theorem ask_great (he : En.ask x k p u ∈ es) : k ≤ greatest es x := by
  refine (maxL_ge _ 0).2 _ ?_
  unfold askedNums entsOf
  refine List.mem_map.mpr ⟨_, List.mem_filter.mpr ⟨he, ?_⟩, rfl⟩
  have e1 : (En.ask x k p u).kind = "ask" := rfl
  have e2 : (En.ask x k p u).name = x := rfl
  rw [e1, e2]
  simp
/-- a claim that can never be its house's own again -/
def dead (w : Wo) (h : Int) (x : Str) (k : Int) : Prop := En.back x k ∈ w.log h ∨ k < greatest (w.log h) x
def Cur (now : Int) (dd : Int → Str → Int → Prop) (es : List En) : Prop := ∀ x h k u, En.word x h k u ∈ es → now < u → ¬ dd h x k → ∃ v, wordIn es x = some (h, k, v) ∧ u ≤ v
theorem Cur.mono (c : Cur now dd es) (hn : now ≤ now') (hd : ∀ h x k, dd h x k → dd' h x k) : Cur now' dd' es := fun x h k u hm hu hz => c x h k u hm (by omega) fun z => hz (hd _ _ _ z)
theorem Cur.other (c : Cur now dd es) (h1 : e.kind ≠ "word") (h2 : e.kind ≠ "free") : Cur now dd (es ++ [e]) := fun x h k u hm hu hz => by
  rcases List.mem_append.mp hm with hm | hm
  · rw [wordIn_other h1 h2]; exact c x h k u hm hu hz
  · rw [← List.mem_singleton.mp hm] at h1; exact absurd rfl h1
theorem Cur.word (c : Cur now dd es) (hd : isDue es x h k u now = true) : Cur now dd (es ++ [.word x h k u]) := fun y h' k' u' hm hu hz => by
  rw [wordIn_word]
  rcases List.mem_append.mp hm with hm | hm
  · obtain ⟨v, e1, e2⟩ := c y h' k' u' hm hu hz
    by_cases e : x = y
    · subst e
      rw [if_pos rfl]
      unfold isDue at hd
      rw [e1] at hd
      simp only at hd
      rw [if_neg (by omega)] at hd
      simp at hd
      obtain ⟨⟨rfl, rfl⟩, h3⟩ := hd
      exact ⟨u, rfl, by omega⟩
    · rw [if_neg e]; exact ⟨v, e1, e2⟩
  · have e := List.mem_singleton.mp hm
    injection e with e1 e2 e3 e4
    subst e1 e2 e3 e4
    rw [if_pos rfl]
    exact ⟨_, rfl, Int.le_refl _⟩
theorem Cur.free {v : Int} (c : Cur now dd es) (hw : wordIn es x = some (h, k, v)) (hd : dd h x k) : Cur now dd (es ++ [.free x h k]) := fun y h' k' u' hm hu hz => by
  rcases List.mem_append.mp hm with hm | hm
  · obtain ⟨v', e1, e2⟩ := c y h' k' u' hm hu hz
    rw [wordIn_free hw]
    by_cases e : x = y
    · subst e
      rw [hw] at e1
      cases e1
      exact absurd hd hz
    · rw [if_neg e]; exact ⟨v', e1, e2⟩
  · cases List.mem_singleton.mp hm
structure Safe (w : Wo) : Prop where
  giv : ∀ h, houseOk w.m h → ∀ x k o u, En.got x k o u ∈ w.log h → En.word x h k u ∈ w.log o
  ywd : ∀ o h x k u, Le.word o h x k u ∈ w.yard → En.word x h k u ∈ w.log o
  yak : ∀ h o x k p u, Le.ask h o x k p u ∈ w.yard → k ≤ greatest (w.log h) x
  wdk : ∀ o, houseOk w.m o → ∀ x h k u, En.word x h k u ∈ w.log o → k ≤ greatest (w.log h) x
  ybk : ∀ h o x k, Le.back h o x k ∈ w.yard → dead w h x k
  cur : ∀ o, houseOk w.m o → Cur w.now (dead w) (w.log o)
structure Grow (w w' : Wo) (h : Int) (es : List En) (ls : List Le) : Prop where
  m : w'.m = w.m
  now : w.now ≤ w'.now
  own : w'.log h = w.log h ++ es
  oth : ∀ o, houseOk w.m o → o ≠ h → w'.log o = w.log o
  pre : ∀ o, ∃ fs, w'.log o = w.log o ++ fs
  yd : ∀ l ∈ w'.yard, l ∈ w.yard ∨ l ∈ ls
theorem Grow.great (G : Grow w w' h es ls) (o : Int) (x : Str) : greatest (w.log o) x ≤ greatest (w'.log o) x := by
  obtain ⟨fs, e⟩ := G.pre o
  rw [e]
  exact great_app
theorem Grow.mem (G : Grow w w' h es ls) {e : En} {o : Int} (he : e ∈ w.log o) : e ∈ w'.log o := by
  obtain ⟨fs, e⟩ := G.pre o
  rw [e]
  exact List.mem_append_left _ he
theorem Grow.dead (G : Grow w w' h es ls) (o : Int) (x : Str) (k : Int) (hd : dead w o x k) : dead w' o x k := by
  rcases hd with hd | hd
  · exact .inl (G.mem hd)
  · have := G.great o x
    exact .inr (by omega)
theorem Safe.grow (S : Safe w) (G : Grow w w' h es ls) (h0 : houseOk w.m h)
    (c1 : ∀ x k o u, En.got x k o u ∈ es → En.word x h k u ∈ w'.log o)
    (c2 : ∀ o h' x k u, Le.word o h' x k u ∈ ls → En.word x h' k u ∈ w'.log o)
    (c3 : ∀ h' o x k p u, Le.ask h' o x k p u ∈ ls → k ≤ greatest (w'.log h') x)
    (c4 : ∀ x h' k u, En.word x h' k u ∈ es → k ≤ greatest (w'.log h') x)
    (c5 : ∀ h' o x k, Le.back h' o x k ∈ ls → dead w' h' x k)
    (c6 : Cur w'.now (dead w') (w.log h ++ es)) : Safe w' := by
  refine ⟨fun h' hh x k o u hm => ?_, fun o h' x k u hm => ?_, fun h' o x k p u hm => ?_, fun o ho x h' k u hm => ?_, fun h' o x k hm => ?_, fun o ho => ?_⟩
  · rw [G.m] at hh
    by_cases e : h' = h
    · subst e
      rw [G.own] at hm
      rcases List.mem_append.mp hm with hm | hm
      · exact G.mem (S.giv _ hh x k o u hm)
      · exact c1 x k o u hm
    · rw [G.oth h' hh e] at hm
      exact G.mem (S.giv _ hh x k o u hm)
  · rcases G.yd _ hm with hm | hm
    · exact G.mem (S.ywd o h' x k u hm)
    · exact c2 o h' x k u hm
  · rcases G.yd _ hm with hm | hm
    · exact Int.le_trans (S.yak h' o x k p u hm) (G.great _ _)
    · exact c3 h' o x k p u hm
  · rw [G.m] at ho
    by_cases e : o = h
    · subst e
      rw [G.own] at hm
      rcases List.mem_append.mp hm with hm | hm
      · exact Int.le_trans (S.wdk o ho x h' k u hm) (G.great _ _)
      · exact c4 x h' k u hm
    · rw [G.oth o ho e] at hm
      exact Int.le_trans (S.wdk o ho x h' k u hm) (G.great _ _)
  · rcases G.yd _ hm with hm | hm
    · exact G.dead _ _ _ (S.ybk h' o x k hm)
    · exact c5 h' o x k hm
  · rw [G.m] at ho
    by_cases e : o = h
    · subst e
      rw [G.own]
      exact c6
    · rw [G.oth o ho e]
      exact (S.cur o ho).mono G.now G.dead
theorem grow_moved {ys : List Le} {no : Option Nt} (h0 : houseOk w.m h) (hy : ∀ l ∈ ys, l ∈ w.yard) : Grow w (movedW { w with yard := ys } h es ls no) h es ls := by
  have hlt : h.toNat < w.logs.length := by
    have := h0.2
    have := h0.1
    unfold Wo.m at *
    omega
  have own : (w.logs.set h.toNat (w.log h ++ es))[h.toNat]?.getD [] = w.log h ++ es := by rw [List.getElem?_set_self hlt]; rfl
  have oth : ∀ o : Int, o.toNat ≠ h.toNat → (w.logs.set h.toNat (w.log h ++ es))[o.toNat]?.getD [] = w.log o := fun o ho => by
    rw [List.getElem?_set_ne (fun z => ho z.symm)]; rfl
  refine ⟨by unfold Wo.m movedW; simp, Int.le_refl _, own, fun o ho hne => oth o fun z => hne ?_, fun o => ?_, fun l hl => ?_⟩
  · have := h0.1
    have := ho.1
    omega
  · by_cases e : o.toNat = h.toNat
    · refine ⟨es, ?_⟩
      show (w.logs.set h.toNat (w.log h ++ es))[o.toNat]?.getD [] = _
      have e2 : w.log o = w.log h := by unfold Wo.log; rw [e]
      rw [e, own, e2]
    · exact ⟨[], by rw [List.append_nil]; exact oth o e⟩
  · rcases List.mem_append.mp hl with hl | hl
    · exact .inl (hy l hl)
    · exact .inr hl
theorem grow_same (hl : w'.logs = w.logs) (hn : w.now ≤ w'.now) (hy : ∀ l ∈ w'.yard, l ∈ w.yard) : Grow w w' h [] [] := by
  have e : ∀ o, w'.log o = w.log o := fun o => by unfold Wo.log; rw [hl]
  exact ⟨by unfold Wo.m; rw [hl], hn, by rw [List.append_nil]; exact e h, fun o _ _ => e o, fun o => ⟨[], by rw [List.append_nil]; exact e o⟩, fun l hm => .inl (hy l hm)⟩
theorem news_told {m now : Int} {es more : List En} : ∀ l ∈ (newsOf m h es more x now).2, ∃ o k p, l = .told h o x k p now := by
  intro l hl
  unfold newsOf at hl
  split at hl
  · cases hl
  · split at hl
    · cases hl
    · obtain ⟨o, _, rfl⟩ := List.mem_map.mp hl
      exact ⟨_, _, _, rfl⟩
theorem safe_same (S : Safe w) (m1 : 1 ≤ w.m) (hl : w'.logs = w.logs) (hn : w.now ≤ w'.now) (hy : ∀ l ∈ w'.yard, l ∈ w.yard) : Safe w' := by
  have h0 : houseOk w.m 0 := ⟨Int.le_refl _, by omega⟩
  have G := grow_same (h := 0) hl hn hy
  refine S.grow G h0 (fun _ _ _ _ z => by cases z) (fun _ _ _ _ _ z => by cases z) (fun _ _ _ _ _ _ z => by cases z) (fun _ _ _ _ z => by cases z) (fun _ _ _ _ z => by cases z) ?_
  rw [List.append_nil]
  exact (S.cur 0 h0).mono G.now G.dead
theorem safe_asked (S : Safe w) (h0 : houseOk w.m h) : Safe (askedW w h x k p) := by
  unfold askedW
  dsimp only
  generalize eu : w.now + w.term = u
  generalize el : ((others w.m h).map fun o => Le.ask h o x k p u) ++ (newsOf w.m h (w.log h ++ [.ask x k p u]) (ownWord (w.log h ++ [.ask x k p u]) h x k u w.now) x w.now).2 = ls
  generalize (newsOf w.m h (w.log h ++ [.ask x k p u]) (ownWord (w.log h ++ [.ask x k p u]) h x k u w.now) x w.now).1 = no
  have G := grow_moved (es := .ask x k p u :: ownWord (w.log h ++ [.ask x k p u]) h x k u w.now) (ls := ls) (no := no) h0 (fun l z => z : ∀ l ∈ w.yard, l ∈ w.yard)
  have hl : ∀ l ∈ ls, (∃ o, l = .ask h o x k p u) ∨ ∃ o k p, l = .told h o x k p w.now := fun l hm => by
    rw [← el] at hm
    rcases List.mem_append.mp hm with hm | hm
    · obtain ⟨o, _, rfl⟩ := List.mem_map.mp hm
      exact .inl ⟨o, rfl⟩
    · exact .inr (news_told l hm)
  have hg : k ≤ greatest ((movedW { w with yard := w.yard } h (.ask x k p u :: ownWord (w.log h ++ [.ask x k p u]) h x k u w.now) ls no).log h) x := by
    rw [G.own]
    exact ask_great (p := p) (u := u) (List.mem_append_right _ List.mem_cons_self)
  have C0 := (S.cur h h0).mono G.now G.dead
  have C1 := C0.other (e := .ask x k p u) (by show "ask" ≠ "word"; decide) (by show "ask" ≠ "free"; decide)
  have nw : (movedW { w with yard := w.yard } h (.ask x k p u :: ownWord (w.log h ++ [.ask x k p u]) h x k u w.now) ls no).now = w.now := rfl
  generalize (movedW { w with yard := w.yard } h (.ask x k p u :: ownWord (w.log h ++ [.ask x k p u]) h x k u w.now) ls no) = w' at *
  have hown : (∀ e ∈ ownWord (w.log h ++ [.ask x k p u]) h x k u w.now, e = .word x h k u ∨ e = .got x k h u ∨ e = .no x k h) ∧ (.got x k h u ∈ ownWord (w.log h ++ [.ask x k p u]) h x k u w.now → En.word x h k u ∈ ownWord (w.log h ++ [.ask x k p u]) h x k u w.now) ∧
      Cur w'.now (dead w') (w.log h ++ .ask x k p u :: ownWord (w.log h ++ [.ask x k p u]) h x k u w.now) := by
    unfold ownWord
    by_cases hd : isDue (w.log h ++ [.ask x k p u]) x h k u w.now = true
    · rw [if_pos hd]
      refine ⟨fun e he => by
        rcases List.mem_cons.mp he with rfl | he
        · exact .inl rfl
        · exact .inr (.inl (List.mem_singleton.mp he)), fun _ => List.mem_cons_self, ?_⟩
      have e1 : w.log h ++ En.ask x k p u :: [.word x h k u, .got x k h u] = ((w.log h ++ [.ask x k p u]) ++ [.word x h k u]) ++ [.got x k h u] := by simp
      rw [e1]
      rw [← nw] at hd
      exact (C1.word hd).other (by show "got" ≠ "word"; decide) (by show "got" ≠ "free"; decide)
    · rw [if_neg hd]
      split
      · split
        · exact ⟨fun e he => (by cases he), fun z => (by cases z), C1⟩
        · refine ⟨fun e he => .inr (.inr (List.mem_singleton.mp he)), fun z => (by cases List.mem_singleton.mp z), ?_⟩
          have e1 : w.log h ++ En.ask x k p u :: [.no x k h] = (w.log h ++ [.ask x k p u]) ++ [.no x k h] := by simp
          rw [e1]
          exact C1.other (by show "no" ≠ "word"; decide) (by show "no" ≠ "free"; decide)
      · exact ⟨fun e he => (by cases he), fun z => (by cases z), C1⟩
  obtain ⟨ho1, ho2, ho3⟩ := hown
  refine S.grow G h0 ?_ ?_ ?_ ?_ ?_ ho3
  · intro y j o v hm
    rcases List.mem_cons.mp hm with hm | hm
    · cases hm
    · rcases ho1 _ hm with e | e | e
      · cases e
      · cases e
        rw [G.own]
        exact List.mem_append_right _ (List.mem_cons_of_mem _ (ho2 hm))
      · cases e
  · intro o h' y j v hm
    rcases hl _ hm with ⟨_, e⟩ | ⟨_, _, _, e⟩ <;> cases e
  · intro h' o y j q v hm
    rcases hl _ hm with ⟨_, e⟩ | ⟨_, _, _, e⟩
    · cases e
      exact hg
    · cases e
  · intro y h' j v hm
    rcases List.mem_cons.mp hm with hm | hm
    · cases hm
    · rcases ho1 _ hm with e | e | e
      · cases e
        exact hg
      · cases e
      · cases e
  · intro h' o y j hm
    rcases hl _ hm with ⟨_, e⟩ | ⟨_, _, _, e⟩ <;> cases e
theorem safe_back {c : Cl} (S : Safe w) (h0 : houseOk w.m h) (hc : claimOf (w.log h) x = some c) : Safe (backW w h x) := by
  have main : ∀ fs, (fs = [] ∨ (fs = [.free x h c.num] ∧ ∃ v, wordIn (w.log h) x = some (h, c.num, v))) → Safe (movedW w h (.back x c.num :: fs) ((others w.m h).map fun o => .back h o x c.num) none) := by
    intro fs hf
    generalize el : ((others w.m h).map fun o => Le.back h o x c.num) = ls
    have G := grow_moved (es := .back x c.num :: fs) (ls := ls) (no := none) h0 (fun l z => z : ∀ l ∈ w.yard, l ∈ w.yard)
    have hd : dead (movedW { w with yard := w.yard } h (.back x c.num :: fs) ls none) h x c.num := by
      left
      rw [G.own]
      exact List.mem_append_right _ List.mem_cons_self
    have C0 := (S.cur h h0).mono G.now G.dead
    have C1 := C0.other (e := .back x c.num) (by show "back" ≠ "word"; decide) (by show "back" ≠ "free"; decide)
    have hl : ∀ l ∈ ls, ∃ o, l = .back h o x c.num := fun l hm => by
      rw [← el] at hm
      obtain ⟨o, _, rfl⟩ := List.mem_map.mp hm
      exact ⟨o, rfl⟩
    refine S.grow G h0 ?_ ?_ ?_ ?_ ?_ ?_
    · intro y j o v hm
      rcases List.mem_cons.mp hm with hm | hm
      · cases hm
      · rcases hf with rfl | ⟨rfl, _⟩
        · cases hm
        · cases List.mem_singleton.mp hm
    · intro o h' y j v hm
      obtain ⟨_, e⟩ := hl _ hm
      cases e
    · intro h' o y j q v hm
      obtain ⟨_, e⟩ := hl _ hm
      cases e
    · intro y h' j v hm
      rcases List.mem_cons.mp hm with hm | hm
      · cases hm
      · rcases hf with rfl | ⟨rfl, _⟩
        · cases hm
        · cases List.mem_singleton.mp hm
    · intro h' o y j hm
      obtain ⟨_, e⟩ := hl _ hm
      cases e
      exact hd
    · rcases hf with rfl | ⟨rfl, v, hv⟩
      · exact C1
      · have e1 : w.log h ++ En.back x c.num :: [.free x h c.num] = (w.log h ++ [.back x c.num]) ++ [.free x h c.num] := by simp
        rw [e1]
        refine C1.free (v := v) ?_ hd
        rw [wordIn_other (by show "back" ≠ "word"; decide) (by show "back" ≠ "free"; decide)]
        exact hv
  unfold backW
  rw [hc]
  dsimp only
  refine main _ ?_
  split
  · rename_i h' k' v hw
    split
    · rename_i e
      obtain ⟨rfl, rfl⟩ := e
      exact .inr ⟨rfl, v, hw⟩
    · exact .inl rfl
  · exact .inl rfl
theorem safe_carried (S : Safe w) (ok : WOk n w) (hk : 0 ≤ k) (hl : k < w.yard.length) : Safe (carriedW w k) := by
  obtain ⟨l, h2, h3⟩ := let_at hk hl
  have lok := ok.yard l h3
  have h0 := lok.hs.2.1
  have lo := ok.log h0
  unfold carriedW
  rw [h2]
  dsimp only
  have hy : ∀ z ∈ w.yard.eraseIdx k.toNat, z ∈ w.yard := fun z hz => (List.eraseIdx_sublist ..).subset hz
  have el : ∀ o, ({ w with yard := w.yard.eraseIdx k.toNat } : Wo).log o = w.log o := fun _ => rfl
  have G := fun es ls no => grow_moved (w := w) (es := es) (ls := ls) (no := no) h0 hy
  have nil1 : ∀ (es : List En), (∀ x k o u, En.got x k o u ∈ ([] : List En) → En.word x l.to k u ∈ es) := fun es _ _ _ _ z => by cases z
  cases l with
  | ask s t nm k' pp u' =>
    unfold taken askTaken
    dsimp only
    split
    · have G := G [] [] none
      exact S.grow G h0 (fun _ _ _ _ z => by cases z) (fun _ _ _ _ _ z => by cases z) (fun _ _ _ _ _ _ z => by cases z) (fun _ _ _ _ z => by cases z) (fun _ _ _ _ z => by cases z) (by rw [List.append_nil]; exact (S.cur _ h0).mono G.now G.dead)
    · split
      · rename_i hd
        have G := G [.word nm s k' u'] [.word t s nm k' u'] none
        refine S.grow G h0 (fun _ _ _ _ z => by cases List.mem_singleton.mp z) ?_ (fun _ _ _ _ _ _ z => by cases List.mem_singleton.mp z) ?_ (fun _ _ _ _ z => by cases List.mem_singleton.mp z) ?_
        · intro o h' y j v hm
          cases List.mem_singleton.mp hm
          have := G.own
          show En.word nm s k' u' ∈ _
          erw [G.own]
          exact List.mem_append_right _ (List.mem_singleton.mpr rfl)
        · intro y h' j v hm
          cases List.mem_singleton.mp hm
          exact Int.le_trans (S.yak s t nm k' pp u' h3) (G.great _ _)
        · exact ((S.cur _ h0).mono G.now G.dead).word hd
      · split
        · have G := G [] [] none
          exact S.grow G h0 (fun _ _ _ _ z => by cases z) (fun _ _ _ _ _ z => by cases z) (fun _ _ _ _ _ _ z => by cases z) (fun _ _ _ _ z => by cases z) (fun _ _ _ _ z => by cases z) (by rw [List.append_nil]; exact (S.cur _ h0).mono G.now G.dead)
        · rename_i h' k2 u2 hw
          split
          · rename_i e
            obtain ⟨rfl, rfl⟩ := e
            have G := G [] [.word t h' nm k2 u2] none
            refine S.grow G h0 (fun _ _ _ _ z => by cases z) ?_ (fun _ _ _ _ _ _ z => by cases List.mem_singleton.mp z) (fun _ _ _ _ z => by cases z) (fun _ _ _ _ z => by cases List.mem_singleton.mp z) (by rw [List.append_nil]; exact (S.cur _ h0).mono G.now G.dead)
            intro o h'' y j v hm
            cases List.mem_singleton.mp hm
            exact G.mem (wordIn_mem hw)
          · have G := G [] [.no t s nm k'] none
            exact S.grow G h0 (fun _ _ _ _ z => by cases z) (fun _ _ _ _ _ z => by cases List.mem_singleton.mp z) (fun _ _ _ _ _ _ z => by cases List.mem_singleton.mp z) (fun _ _ _ _ z => by cases z) (fun _ _ _ _ z => by cases List.mem_singleton.mp z) (by rw [List.append_nil]; exact (S.cur _ h0).mono G.now G.dead)
  | word s t nm k' u' =>
    have hs := lok.hs.1
    have hwd := S.ywd s t nm k' u' h3
    have hle := S.wdk s hs nm t k' u' hwd
    have hk1 : 1 ≤ k' := lok.2.2.2.2.1
    have bk : ∀ no, (∀ c, claimOf (w.log t) nm = some c → c.num ≠ k') → Safe (movedW { w with yard := w.yard.eraseIdx k.toNat } t [] [.back t s nm k'] no) := fun no hne => by
      have G := G [] [.back t s nm k'] no
      refine S.grow G h0 (fun _ _ _ _ z => by cases z) (fun _ _ _ _ _ z => by cases List.mem_singleton.mp z) (fun _ _ _ _ _ _ z => by cases List.mem_singleton.mp z) (fun _ _ _ _ z => by cases z) ?_ (by rw [List.append_nil]; exact (S.cur _ h0).mono G.now G.dead)
      intro h' o y j hm
      cases List.mem_singleton.mp hm
      refine G.dead _ _ _ ?_
      by_cases e : k' = greatest (w.log t) nm
      · left
        by_cases hb : En.back nm k' ∈ w.log t
        · exact hb
        · exfalso
          have hcu : cur (w.log t) nm := ⟨by omega, by rw [← e]; exact hb⟩
          obtain ⟨c, hc, hn, _⟩ := claimOf_cur hcu
          exact hne c hc (by rw [hn, e])
      · right; omega
    unfold taken wordTaken
    dsimp only
    split
    · rename_i hc
      exact bk none fun c hc' => by
        have hc2 : claimOf (w.log t) nm = none := hc
        rw [hc2] at hc'; cases hc'
    · rename_i c hc
      have hc : claimOf (w.log t) nm = some c := hc
      split
      · rename_i hne
        exact bk none fun c' hc' => by rw [hc] at hc'; cases hc'; exact hne
      · split
        · have G := G [] [] none
          exact S.grow G h0 (fun _ _ _ _ z => by cases z) (fun _ _ _ _ _ z => by cases z) (fun _ _ _ _ _ _ z => by cases z) (fun _ _ _ _ z => by cases z) (fun _ _ _ _ z => by cases z) (by rw [List.append_nil]; exact (S.cur _ h0).mono G.now G.dead)
        · have G := G [.got nm k' s u'] (newsOf w.m t (w.log t) [.got nm k' s u'] nm w.now).2 (newsOf w.m t (w.log t) [.got nm k' s u'] nm w.now).1
          refine S.grow G h0 ?_ ?_ ?_ ?_ ?_ ?_
          · intro y j o v hm
            cases List.mem_singleton.mp hm
            exact G.mem hwd
          · intro o h' y j v hm
            obtain ⟨_, _, _, e⟩ := news_told _ hm
            cases e
          · intro h' o y j q v hm
            obtain ⟨_, _, _, e⟩ := news_told _ hm
            cases e
          · intro y h' j v hm
            cases List.mem_singleton.mp hm
          · intro h' o y j hm
            obtain ⟨_, _, _, e⟩ := news_told _ hm
            cases e
          · exact ((S.cur _ h0).mono G.now G.dead).other (by show "got" ≠ "word"; decide) (by show "got" ≠ "free"; decide)
  | no s t nm k' =>
    unfold taken
    dsimp only
    have hn : ∀ e ∈ noTaken (w.log t) s nm k', e = .no nm k' s := fun e he => by
      unfold noTaken at he
      split at he
      · cases he
      · split at he
        · cases he
        · exact List.mem_singleton.mp he
    have hC : ∀ {dd now}, Cur now dd (w.log t) → Cur now dd (w.log t ++ noTaken (w.log t) s nm k') := fun C => by
      unfold noTaken
      split
      · rw [List.append_nil]; exact C
      · split
        · rw [List.append_nil]; exact C
        · exact C.other (by show "no" ≠ "word"; decide) (by show "no" ≠ "free"; decide)
    have G := G (noTaken (w.log t) s nm k') [] none
    exact S.grow G h0 (fun _ _ _ _ z => by cases hn _ z) (fun _ _ _ _ _ z => by cases z) (fun _ _ _ _ _ _ z => by cases z) (fun _ _ _ _ z => by cases hn _ z) (fun _ _ _ _ z => by cases z) (hC ((S.cur _ h0).mono G.now G.dead))
  | back s t nm k' =>
    unfold taken
    dsimp only
    have hdd := S.ybk s t nm k' h3
    have hn : ∀ e ∈ backTaken (w.log t) s nm k', e = .free nm s k' := fun e he => by
      unfold backTaken at he
      split at he
      · cases he
      · split at he
        · exact List.mem_singleton.mp he
        · cases he
    have hC : ∀ {dd : Int → Str → Int → Prop} {now}, dd s nm k' → Cur now dd (w.log t) → Cur now dd (w.log t ++ backTaken (w.log t) s nm k') := fun hd C => by
      unfold backTaken
      split
      · rw [List.append_nil]; exact C
      · rename_i h' k2 v hw
        split
        · rename_i e
          obtain ⟨rfl, rfl⟩ := e
          exact C.free hw hd
        · rw [List.append_nil]; exact C
    have G := G (backTaken (w.log t) s nm k') [] none
    exact S.grow G h0 (fun _ _ _ _ z => by cases hn _ z) (fun _ _ _ _ _ z => by cases z) (fun _ _ _ _ _ _ z => by cases z) (fun _ _ _ _ z => by cases hn _ z) (fun _ _ _ _ z => by cases z) (hC (G.dead _ _ _ hdd) ((S.cur _ h0).mono G.now G.dead))
  | told s t nm k' pp u' =>
    unfold taken
    dsimp only
    have G := G [] [] (some ⟨nm, s, k', pp, u'⟩)
    exact S.grow G h0 (fun _ _ _ _ z => by cases z) (fun _ _ _ _ _ z => by cases z) (fun _ _ _ _ _ _ z => by cases z) (fun _ _ _ _ z => by cases z) (fun _ _ _ _ z => by cases z) (by rw [List.append_nil]; exact (S.cur _ h0).mono G.now G.dead)
theorem safe_behind {e : De} (S : Safe w) (ok : WOk n w) (he : e.ok w.m) (hr : refusal w e = none) : Safe (behindW w e) := by
  unfold refusal at hr
  obtain ⟨hl, hr⟩ := or_none hr
  have letOk : ∀ {k : Int}, (if k < (w.yard.length : Int) then (none : Option Str) else some (Str.ofString "NoLetter")) = none → k < w.yard.length := fun {k} hk => by
    split at hk
    · assumption
    · cases hk
  have m1 := ok.m1
  cases e with
  | claim h x p => exact safe_asked S he.1
  | renew h x =>
    unfold behindW
    simp only
    split
    · exact S
    · exact safe_asked S he.1
  | back h x =>
    unfold behindW
    simp only
    cases hc : claimOf (w.log h) x with
    | none => unfold backW; rw [hc]; exact S
    | some c => exact safe_back S he.1 hc
  | carry k => exact safe_carried S ok he (letOk hl)
  | copy k =>
    unfold behindW copyW
    simp only
    split
    · exact S
    · rename_i l hy
      refine safe_same S m1 rfl (Int.le_refl _) fun z hz => ?_
      rcases List.mem_append.mp hz with hz | hz
      · exact hz
      · rw [List.mem_singleton.mp hz]
        exact List.mem_of_getElem? hy
  | lose k => exact safe_same S m1 rfl (Int.le_refl _) fun z hz => (List.eraseIdx_sublist ..).subset hz
  | fall h => exact safe_same S m1 rfl (Int.le_refl _) fun z hz => hz
  | rise h => exact safe_same S m1 rfl (Int.le_refl _) fun z hz => hz
  | part s => exact safe_same S m1 rfl (Int.le_refl _) fun z hz => hz
  | heal => exact safe_same S m1 rfl (Int.le_refl _) fun z hz => hz
  | round => exact safe_same S m1 rfl (by show w.now ≤ w.now + 1; omega) fun z hz => hz
theorem w0_logN {m t : Int} : (w0 m t).log o = [] := by
  unfold Wo.log w0
  dsimp only
  rw [List.getElem?_replicate]
  split <;> rfl
theorem safe0 {m t : Int} : Safe (w0 m t) :=
  ⟨fun h _ x k o u z => (by rw [w0_logN] at z; cases z), fun _ _ _ _ _ z => (by cases z), fun _ _ _ _ _ _ z => (by cases z), fun o _ x h k u z => (by rw [w0_logN] at z; cases z), fun _ _ _ _ z => (by cases z), fun o _ x h k u z => (by rw [w0_logN] at z; cases z)⟩
end
end DL
namespace DL
open PySem PySem.Spec PyProof.Rows L2
end DL
namespace DL
open PySem PySem.Spec PyProof.Rows L2
section
variable {X : Cx} {E : XK} {a b : Expr} {ma mb : WE} {pos : Pos}
def wAddR (x y : WE) : WE := fun e st X Q => x e st X fun d st1 => y e st1 X fun k st2 => on ((lsOf st2 d).bind fun ds => (lsOf st2 k).bind fun es => if ds.length + es.length ≤ sizeLine then some (ds ++ es) else none) fun ds => ∀ p, st2 p = none → Q (.ref p) (st2.set p (.lst ds))
@[simp] theorem wAddR_ap {x y : WE} {e : Env} {st : Sto} {X : PoX} {Q : PoE} : wAddR x y e st X Q = x e st X fun d st1 => y e st1 X fun k st2 => on ((lsOf st2 d).bind fun ds => (lsOf st2 k).bind fun es => if ds.length + es.length ≤ sizeLine then some (ds ++ es) else none) fun ds => ∀ p, st2 p = none → Q (.ref p) (st2.set p (.lst ds)) := id rfl
theorem e_addR (ha : PEw X E a ma) (hb : PEw X E b mb) : PEw X E (.BinOp a .Add b pos) (wAddR ma mb) := pe_imp (pe_op op_catR ha hb) fun σ H Q ⟨B, e, st, Qd, Xd, S, pq, px, m⟩ =>
  ⟨B, e, st, _, Xd, S, fun x st1 vx H1 m1 x1 k1 r1 => ⟨B, e, st1, _, Xd, S.on x1 k1, fun y st2 vy H2 m2 x2 k2 r2 => by
    obtain ⟨ds, hd, q⟩ := on_iff.mp m2
    obtain ⟨d1, e1, hd⟩ := Option.bind_eq_some_iff.mp hd
    obtain ⟨d2, e2, hd⟩ := Option.bind_eq_some_iff.mp hd
    split at hd <;> cases hd
    rename_i hz
    obtain ⟨p1, vs, rfl, h1, rr, z1⟩ := ls_of k2 (r1.ext x2) e1
    obtain ⟨p2, us, rfl, h2, rr2, z2⟩ := ls_of k2 r2 e2
    have l1 := rr.length
    have l2 := rr2.length
    refine ⟨p1, p2, vs, us, rfl, rfl, h1, h2, by omega, fun pv hp => ?_⟩
    obtain ⟨k3, x3⟩ := k2.put (c := .lst (d1 ++ d2)) (o := .lst (vs ++ us)) hp ⟨rr.append rr2, by rw [List.length_append]; omega⟩
    exact pq _ _ _ _ (q pv (k2.none_ hp)) ((x1.trans x2).trans x3) k3 (.ref pv), px.on x1, m1⟩, px, m⟩
end
end DL
namespace DL
open PySem PySem.Spec PyProof.Rows L2
end DL
namespace DL
open PySem PySem.Spec PyProof.Rows L2
end DL
namespace DL
open PySem PySem.Spec PyProof.Rows L2
section
variable {st st' : Sto} {X : PoX} {Q : PoE} {w : Wo} {n : Nat} {a root : Addr} {m : Int} {P P' : Pm} {e : De}
structure RS (a : Addr) (m : Int) (root : Addr) (n : Nat) (P : Pm) (st : Sto) : Prop where
  j : RJ a m root n P st
  s : Safe P.w
theorem RS.start {t : Int} (G : GI a 0 P st) (hw : P.w = w0 P.m t) (t2 : 2 ≤ t) (t9 : t ≤ 9) : RS a P.m (P.loc .root) 0 P st := ⟨RJ.start G hw t2 t9, by rw [hw]; exact safe0⟩
theorem RS.step (I : RS a m root n P st) (he : e.ok P.m) (hr : refusal P.w e = none) (D' : Dn (fun b => b = a) (6 * n + 6) P st (behindW P.w e) P' st') : RS a m root (n + 1) P' st' :=
  ⟨I.j.step he hr D', by rw [D'.w]; exact safe_behind I.s I.j.rn.ok (I.j.ok he) hr⟩
theorem RS.mono (I : RS a m root n P st) : RS a m root (n + 1) P st := ⟨I.j.mono, I.s⟩
end
end DL
namespace DL
open PySem PySem.Spec PyProof.Rows L2
/-- a run's state that differs from s0 at the well alone -/
structure GK (s0 : Sto) (aw : Addr) (L : Nat) (P : Pm) (st : Sto) : Prop where
  g : GI aw L P st
  k : ∀ b, b ≠ aw → st b = s0 b
section
variable {aw : Addr} {L L' : Nat} {P P' : Pm} {s0 st st' st1 : Sto} {X : PoX} {Q : PoE} {k : Int}
theorem GK.mr (G : GK s0 aw L P st) : MR (fun b => b = aw) L P st := G.g.mr
theorem GK.keep (G : GK st aw L P st) (G' : GK st aw L P st') : GK st aw L P (st'.keepOnly st) := by
  refine ⟨G.g.keep G'.g, fun b hb => ?_⟩
  unfold Sto.keepOnly
  rw [G'.k b hb]
  split
  · rfl
  · rename_i h
    cases e : st b with
    | none => rfl
    | some c => rw [e] at h; exact absurd rfl h
end
end DL
namespace DL
open PySem PySem.Spec PyProof.Rows L2
section
variable {st : Sto} {X : PoX} {Q : PoE} {w : Wo} {n : Nat} {F : Addr → Prop} {L : Nat} {P : Pm} {h age : Int} {x : Str}
@[simp] theorem Nt.i0 {z : Nt} : ixD st z.d (.int 0) = some (.str z.n) := by rw [Nt.d, ixD_tup, atI_0]
@[simp] theorem Nt.i1 {z : Nt} : ixD st z.d (.int 1) = some (.int z.h) := by rw [Nt.d, ixD_tup, atI_1]
@[simp] theorem Nt.i3 {z : Nt} : ixD st z.d (.int 3) = some (.str z.p) := by rw [Nt.d, ixD_tup]; rfl
@[simp] theorem Nt.i4 {z : Nt} : ixD st z.d (.int 4) = some (.int z.u) := by rw [Nt.d, ixD_tup, atI_4]
@[simp] theorem Nt.isN {z : Nt} : isN z.d = false := id rfl
end
end DL
namespace DL
open PySem PySem.Spec PyProof.Rows L2
section
variable {w w' : Wo} {n : Nat} {h o k u : Int} {x p : Str} {es fs : List En} {e : En} {ls : List Le}
/-- numbers asked, each once -/
def numsStep (acc : List Int) (e : En) : List Int := match e with
  | .ask _ k _ _ => if k ∈ acc then acc else acc ++ [k]
  | _ => acc
def askNums (es : List En) : List Int := es.foldl numsStep []
def NumOk (es : List En) : Prop := askNums es = rangeI 1 (maxAsk es + 1)
end
end DL
namespace DL
open PySem PySem.Spec PyProof.Rows L2
section
variable {w w' : Wo} {n n' : Nat} {h k : Int} {x p : Str} {es : List En} {ls : List Le} {no : Option Nt} {H H' : Str → Int → Int → Str → Prop}
structure TB (H : Str → Int → Int → Str → Prop) (w : Wo) : Prop where
  nt : ∀ l ∈ w.nts, ∀ z ∈ l, H z.n z.u z.h z.p
  yd : ∀ s t x k p u, Le.told s t x k p u ∈ w.yard → H x u s p
theorem TB.mono (T : TB H w) (h : ∀ x u s p, H x u s p → H' x u s p) : TB H' w := ⟨fun l hl z hz => h _ _ _ _ (T.nt l hl z hz), fun s t x k p u m => h _ _ _ _ (T.yd s t x k p u m)⟩
end
end DL
namespace DL
open PySem PySem.Spec PyProof.Rows L2
theorem toPy_lints {ns : List Int} : toPy (.lst (ns.map D.int)) = some (.list (ns.map PyData.int)) := by rw [toPy, toPyL_ints]; rfl
theorem eqvAll_ints : ∀ ns ms : List Int, PyData.eqvAll (ns.map PyData.int) (ms.map PyData.int) = decide (ns = ms)
  | [], [] => by rw [List.map_nil, PyData.eqvAll]; rfl
  | [], _ :: _ => by rw [List.map_nil, List.map_cons, PyData.eqvAll]; simp
  | _ :: _, [] => by rw [List.map_nil, List.map_cons, PyData.eqvAll]; simp
  | a :: l, b :: m => by
    rw [List.map_cons, List.map_cons, PyData.eqvAll, eqvAll_ints l m, PyData.eqv]
    simp [Bool.decide_and]
    rfl
theorem depthAll_ints : ∀ l : List Int, PyData.depthAll (l.map PyData.int) = 0
  | [] => by rw [List.map_nil, PyData.depthAll]
  | a :: l => by rw [List.map_cons, PyData.depthAll, PyData.depth, depthAll_ints l]; rfl
theorem dEq_lints {st : Sto} {ns ms : List Int} : dEq st (.lst (ns.map D.int)) (.lst (ms.map D.int)) = some (.bl (decide (ns = ms))) := by
  unfold dEq eqB
  rw [show pyOf st (.lst (ns.map D.int)) = some (.list (ns.map PyData.int)) from toPy_lints, show pyOf st (.lst (ms.map D.int)) = some (.list (ms.map PyData.int)) from toPy_lints]
  show (eqvM _ _).map _ = _
  unfold eqvM
  rw [if_pos (by rw [PyData.depth, depthAll_ints]; omega), PyData.eqv, eqvAll_ints]
  rfl
theorem setI_ris (ns : List Int) : (setI ns).Pairwise (· < ·) := by
  have h1 : (setI ns).Pairwise (· ≤ ·) := sortI_srt _
  have h2 : (setI ns).Nodup := (sortI_perm (onceI ns)).nodup_iff.mpr (onceI_nodup ns)
  exact List.Pairwise.imp₂ (fun a b h g => by omega) h1 h2
theorem setI_iff {ns : List Int} : ns = setI ns ↔ ns.Pairwise (· < ·) := ⟨fun h => by rw [h]; exact setI_ris ns, fun h => setI_is h fun _ => Iff.rfl⟩
section
variable {st st' : Sto} {X : PoX} {Q : PoE} {m : Int} {d : D}
/-- whether a thing is of a form -/
def fitB (m : Int) (f : Str) (d : D) : Bool := if f = Str.ofString "house" then hsB m d else if f = Str.ofString "name" then nmB d else if f = Str.ofString "place" then plB d else sdB m d
/-- whether a thing is a deed -/
def dkB (m : Int) : D → Bool
  | .tup (.str w :: ds) => match tabAt w T_deeds with
    | some fs => decide (ds.length = fs.length) && (fs.zip ds).all fun q => fitB m q.1 q.2
    | none => false
  | _ => false
theorem dk_tup {w : Str} {ds : List D} : dkB m (.tup (.str w :: ds)) = match tabAt w T_deeds with
    | some fs => decide (ds.length = fs.length) && (fs.zip ds).all fun q => fitB m q.1 q.2
    | none => false := rfl
theorem zipL_zip : ∀ (fs : List Str) (ds : List D), zipL (fs.map .str) ds = (fs.zip ds).map fun q => .tup [.str q.1, q.2]
  | [], _ => by cases ‹List D› <;> rfl
  | _ :: _, [] => rfl
  | f :: fs, d :: ds => by rw [List.map_cons, List.zip_cons_cons, List.map_cons, ← zipL_zip fs ds]; rfl
/-- what is_deed takes is a deed -/
theorem nmB_iff : nmB d = true ↔ ∃ x, d = .str x ∧ nameOk x = true := by
  cases d with
  | str x => exact ⟨fun h => ⟨x, rfl, h⟩, fun ⟨y, e, h⟩ => by cases e; exact h⟩
  | _ => exact ⟨fun h => (by cases h), fun ⟨y, e, _⟩ => (by cases e)⟩
theorem hsB_iff : hsB m d = true ↔ ∃ h, d = .int h ∧ houseOk m h := by
  cases d with
  | int x =>
    refine ⟨fun h => ⟨x, rfl, ?_⟩, fun ⟨y, e, h⟩ => ?_⟩
    · have : (decide (0 ≤ x) && decide (x < m)) = true := h
      simp at this
      exact this
    · cases e
      show (decide (0 ≤ x) && decide (x < m)) = true
      simp
      exact h
  | _ => exact ⟨fun h => (by cases h), fun ⟨y, e, _⟩ => (by cases e)⟩
theorem plB_iff : plB d = true ↔ ∃ k, d = .int k ∧ 0 ≤ k := by
  cases d with
  | int x =>
    refine ⟨fun h => ⟨x, rfl, by simpa [plB] using h⟩, fun ⟨y, e, h⟩ => ?_⟩
    cases e
    simpa [plB] using h
  | _ => exact ⟨fun h => (by cases h), fun ⟨y, e, _⟩ => (by cases e)⟩
theorem sdB_iff : sdB m d = true ↔ ∃ s, d = .tup (s.map .int) ∧ sideOk m s := by
  cases d with
  | tup ds =>
    have e : sdB m (.tup ds) = (ds.all (hsB m) && (decide (0 < ds.length) && (decide ((ds.length : Int) < m) && risB ds))) := rfl
    rw [e]
    constructor
    · intro h
      simp only [Bool.and_eq_true, List.all_eq_true, decide_eq_true_iff] at h
      obtain ⟨h1, h2, h3, h4⟩ := h
      obtain ⟨ns, rfl⟩ := hs_ints h1
      refine ⟨ns, rfl, fun k hk => ?_, by simpa using h2, by simpa using h3, ?_⟩
      · obtain ⟨k', e1, e2⟩ := hsB_iff.mp (h1 _ (List.mem_map_of_mem (f := D.int) hk))
        cases e1
        exact e2
      · unfold risB at h4
        rw [intsOf_map] at h4
        simpa using h4
    · rintro ⟨s, e1, h1, h2, h3, h4⟩
      cases e1
      simp only [Bool.and_eq_true, List.all_eq_true, decide_eq_true_iff]
      refine ⟨fun x hx => ?_, by simpa using h2, by simpa using h3, ?_⟩
      · obtain ⟨k, hk, rfl⟩ := List.mem_map.mp hx
        exact hsB_iff.mpr ⟨k, rfl, h1 k hk⟩
      · unfold risB
        rw [intsOf_map]
        simpa using h4
  | _ => exact ⟨fun h => (by cases h), fun ⟨y, e, _⟩ => (by cases e)⟩
theorem len0 {ds : List D} (h : ds.length = 0) : ds = [] := List.length_eq_zero_iff.mp h
theorem len1 {ds : List D} (h : ds.length = 1) : ∃ a, ds = [a] := List.length_eq_one_iff.mp h
theorem len2 {ds : List D} (h : ds.length = 2) : ∃ a b, ds = [a, b] := match ds, h with | [a, b], _ => ⟨a, b, rfl⟩
theorem len3 {ds : List D} (h : ds.length = 3) : ∃ a b c, ds = [a, b, c] := match ds, h with | [a, b, c], _ => ⟨a, b, c, rfl⟩
theorem fit_house {d : D} (h : fitB m (Str.ofString "house") d = true) : ∃ h, d = .int h ∧ houseOk m h := hsB_iff.mp h
theorem fit_name {d : D} (h : fitB m (Str.ofString "name") d = true) : ∃ x, d = .str x ∧ nameOk x = true := by
  unfold fitB at h
  rw [if_neg (by simp [ofString_inj]), if_pos rfl] at h
  exact nmB_iff.mp h
theorem fit_place {d : D} (h : fitB m (Str.ofString "place") d = true) : ∃ k, d = .int k ∧ 0 ≤ k := by
  unfold fitB at h
  rw [if_neg (by simp [ofString_inj]), if_neg (by simp [ofString_inj]), if_pos rfl] at h
  exact plB_iff.mp h
theorem fit_side {d : D} (h : fitB m (Str.ofString "houses") d = true) : ∃ s, d = .tup (s.map .int) ∧ sideOk m s := by
  unfold fitB at h
  rw [if_neg (by simp [ofString_inj]), if_neg (by simp [ofString_inj]), if_neg (by simp [ofString_inj])] at h
  exact sdB_iff.mp h
theorem dkB_de (h : dkB m d = true) : ∃ e : De, e.ok m ∧ d = e.d := by
  cases d with
  | tup ds =>
    cases ds with
    | nil => cases h
    | cons w ds =>
      cases w with
      | str w =>
        rw [dk_tup] at h
        cases hf : tabAt w T_deeds with
        | none => rw [hf] at h; cases h
        | some fs =>
          rw [hf] at h
          simp only [Bool.and_eq_true, decide_eq_true_iff, List.all_eq_true] at h
          obtain ⟨hl, ha⟩ := h
          have hm : (w, fs) ∈ T_deeds := by
            have : ∀ (tab : TabL), tabAt w tab = some fs → (w, fs) ∈ tab := by
              intro tab
              induction tab with
              | nil => intro z; cases z
              | cons q r ih =>
                intro z
                obtain ⟨k, ys⟩ := q
                unfold tabAt at z
                split at z
                · rename_i e; cases z; rw [e]; exact List.mem_cons_self
                · exact List.mem_cons_of_mem _ (ih z)
            exact this _ hf
          unfold T_deeds at hm
          simp only [List.mem_cons, List.not_mem_nil, or_false] at hm
          rcases hm with e | e | e | e | e | e | e | e | e | e | e <;> injection e with e1 e2 <;> subst e1 e2
          · obtain ⟨a, b, c, rfl⟩ := len3 hl
            obtain ⟨h, rfl, hh⟩ := fit_house (ha _ (List.mem_cons_self))
            obtain ⟨x, rfl, hx⟩ := fit_name (ha (_, b) (.tail _ (.head _)))
            obtain ⟨p, rfl, hp⟩ := fit_name (ha (_, c) (.tail _ (.tail _ (.head _))))
            exact ⟨.claim h x p, ⟨hh, hx, hp⟩, rfl⟩
          · obtain ⟨a, b, rfl⟩ := len2 hl
            obtain ⟨h, rfl, hh⟩ := fit_house (ha _ (List.mem_cons_self))
            obtain ⟨x, rfl, hx⟩ := fit_name (ha (_, b) (.tail _ (.head _)))
            exact ⟨.renew h x, ⟨hh, hx⟩, rfl⟩
          · obtain ⟨a, b, rfl⟩ := len2 hl
            obtain ⟨h, rfl, hh⟩ := fit_house (ha _ (List.mem_cons_self))
            obtain ⟨x, rfl, hx⟩ := fit_name (ha (_, b) (.tail _ (.head _)))
            exact ⟨.back h x, ⟨hh, hx⟩, rfl⟩
          · obtain ⟨a, rfl⟩ := len1 hl
            obtain ⟨h, rfl, hh⟩ := fit_place (ha _ (List.mem_cons_self))
            exact ⟨.carry h, hh, rfl⟩
          · obtain ⟨a, rfl⟩ := len1 hl
            obtain ⟨h, rfl, hh⟩ := fit_place (ha _ (List.mem_cons_self))
            exact ⟨.copy h, hh, rfl⟩
          · obtain ⟨a, rfl⟩ := len1 hl
            obtain ⟨h, rfl, hh⟩ := fit_place (ha _ (List.mem_cons_self))
            exact ⟨.lose h, hh, rfl⟩
          · obtain ⟨a, rfl⟩ := len1 hl
            obtain ⟨h, rfl, hh⟩ := fit_house (ha _ (List.mem_cons_self))
            exact ⟨.fall h, hh, rfl⟩
          · obtain ⟨a, rfl⟩ := len1 hl
            obtain ⟨h, rfl, hh⟩ := fit_house (ha _ (List.mem_cons_self))
            exact ⟨.rise h, hh, rfl⟩
          · obtain ⟨a, rfl⟩ := len1 hl
            obtain ⟨s, rfl, hs⟩ := fit_side (ha _ (List.mem_cons_self))
            exact ⟨.part s, hs, rfl⟩
          · cases len0 hl
            exact ⟨.heal, trivial, rfl⟩
          · cases len0 hl
            exact ⟨.round, trivial, rfl⟩
      | _ => cases h
  | _ => cases h
end
end DL
namespace DL
open PySem PySem.Spec PyProof.Rows L2
end DL
namespace DL
open PySem PySem.Spec PyProof.Rows L2
section
variable {st st' : Sto} {X : PoX} {Q : PoE} {m : Int} {d a b c : D} {ds : List D} {p : Addr} {x w : Str} {i : Int}
theorem Dks.refl : Dks st st := fun _ h => h
theorem Dks.trans {s1 s2 s3 : Sto} (h : Dks s1 s2) (g : Dks s2 s3) : Dks s1 s3 := fun q z => g q (h q z)
theorem Dks.fresh {c : Cell} (h : st p = none) : Dks st (st.set p c) := fun q z => by rw [Sto.set_ne (fun e => by rw [e, h] at z; cases z)]; exact z
end
end DL
namespace DL
open PySem PySem.Spec PyProof.Rows L2
section
variable {st st' : Sto} {X : PoX} {Q : PoE} {w : Wo} {n : Nat} {d : D} {a : Addr} {L : Nat} {P : Pm}
theorem GI.junk {p : Addr} {c : Cell} (G : GI a L P st) (h : st p = none) : GI a L P (st.set p c) := by
  obtain ⟨r, hr, ok⟩ := G.wl
  exact ⟨(G.mr.junk h).1, r, by rw [Sto.set_ne (fun e => by rw [e, h] at hr; cases hr)]; exact hr, ok⟩
end
end DL
namespace DL
open PySem PySem.Spec PyProof.Rows L2
def rg2 (x y : D) : Option (List D) := match x, y with
  | .int i, .int j => if (0 ≤ i ∧ i ≤ 1000000) ∧ 0 ≤ j ∧ j ≤ 1000000 then some (rangeL i j) else none
  | _, _ => none
def wListRg2 (ma mb : WE) : WE := fun e st X Q => ma e st X fun x st1 => mb e st1 X fun y st2 => on (rg2 x y) fun ds => Q (.lst ds) st2
@[simp] theorem wListRg2_ap {ma mb : WE} {e : Env} {st : Sto} {X : PoX} {Q : PoE} : wListRg2 ma mb e st X Q = ma e st X fun x st1 => mb e st1 X fun y st2 => on (rg2 x y) fun ds => Q (.lst ds) st2 := id rfl
end DL
namespace DL
open PySem PySem.Spec PyProof.Rows L2
end DL
namespace DL
open PySem PySem.Spec PyProof.Rows L2
def dIsB (_ : Sto) (x y : D) : Option D := match x, y with
  | .bl b, .bl c => some (.bl (b == c))
  | _, _ => none
def dIsNotB (_ : Sto) (x y : D) : Option D := match x, y with
  | .bl b, .bl c => some (.bl (!(b == c)))
  | _, _ => none
@[simp] theorem dIsB_bl {st : Sto} {b c : Bool} : dIsB st (.bl b) (.bl c) = some (.bl (b == c)) := rfl
@[simp] theorem dIsNotB_bl {st : Sto} {b c : Bool} : dIsNotB st (.bl b) (.bl c) = some (.bl (!(b == c))) := rfl
end DL
namespace DL
open PySem PySem.Spec PyProof.Rows L2
def kD : L2.Key → D
  | .inl i => .int i
  | .inr x => .str x
def kOk : L2.Key → Bool
  | .inl _ => true
  | .inr x => okS x
def tkOk (k : List L2.Key) : Bool := decide (k.length ≤ sizeLine) && k.all kOk
/-- a dict's keys, as data -/
def keysD : Option Cell → Option (List D)
  | some (.dk kvs) => if kvs.length ≤ sizeLine ∧ (∀ kv ∈ kvs, kOk kv.1 = true) then some (kvs.map fun kv => kD kv.1) else none
  | some (.dt kvs) => if kvs.length ≤ sizeLine ∧ (∀ kv ∈ kvs, tkOk kv.1 = true) then some (kvs.map fun kv => .tup (kv.1.map kD)) else none
  | _ => none
/-- a cell, and the same locked -/
def Lck : Cell → Cell → Prop
  | .dk kvs, .fk _ _ kvs' => kvs' = kvs
  | .dt kvs, .ft _ _ kvs' => kvs' = kvs
  | _, _ => False
def walkD (st : Sto) : D → Option (Addr × Cell × List D)
  | .ref a => match st a, keysD (st a) with
    | some c, some ks => some (a, c, ks)
    | _, _ => none
  | _ => none
/-- the ends within a lock -/
def lockE (a : Addr) (c fz : Cell) (E : WEnds) : WEnds :=
  { nx := fun e2 st2 => st2 a = some fz ∧ E.nx e2 (st2.set a c), rt := fun d st2 => st2 a = some fz ∧ E.rt d (st2.set a c), ex := E.ex, bk := fun e2 st2 => st2 a = some fz ∧ E.bk e2 (st2.set a c), ct := fun e2 st2 => st2 a = some fz ∧ E.ct e2 (st2.set a c) }
def wForK (i : Nat) (t : Tg) (body : WS) (vs : List Nat) : WS := fun E e st => on (slot e i) fun d => on (walkD st d) fun p => ∀ fz, Lck p.2.1 fz →
  wForL t body vs (fun st' => st' p.1 = some fz) (lockE p.1 p.2.1 fz E) p.2.2 (fgt vs e) (st.set p.1 fz)
@[simp] theorem wForK_ap {i : Nat} {t : Tg} {body : WS} {vs : List Nat} {E : WEnds} {e : Env} {st : Sto} : wForK i t body vs E e st = on (slot e i) fun d => on (walkD st d) fun p => ∀ fz, Lck p.2.1 fz →
  wForL t body vs (fun st' => st' p.1 = some fz) (lockE p.1 p.2.1 fz E) p.2.2 (fgt vs e) (st.set p.1 fz) := id rfl
section
variable {X : Cx} {E : XK} {t : Tg} {m1 : WS} {pos px : Pos} {tg : Expr}
def wCompK (i : Nat) (t : Tg) (test : WT) (elt : WE) (vs : List Nat) : WE := fun e st X Q => on (slot e i) fun d => on (walkD st d) fun p => ∀ fz, Lck p.2.1 fz →
  wCompL t test elt (fun st' => st' p.1 = some fz) (fgt vs e) (fun acc st2 => st2 p.1 = some fz ∧ Q (.lst acc) (st2.set p.1 p.2.1)) p.2.2 [] (st.set p.1 fz)
@[simp] theorem wCompK_ap {i : Nat} {t : Tg} {test : WT} {elt : WE} {vs : List Nat} {e : Env} {st : Sto} {X : PoX} {Q : PoE} : wCompK i t test elt vs e st X Q = on (slot e i) fun d => on (walkD st d) fun p => ∀ fz, Lck p.2.1 fz →
  wCompL t test elt (fun st' => st' p.1 = some fz) (fgt vs e) (fun acc st2 => st2 p.1 = some fz ∧ Q (.lst acc) (st2.set p.1 p.2.1)) p.2.2 [] (st.set p.1 fz) := id rfl
end
end DL
namespace DL
open PySem PySem.Spec PyProof.Rows L2
mutual
/-- data of depth n at most, changed objects among it -/
def okI : Nat → D → Bool
  | _, .non => true
  | _, .bl _ => true
  | _, .int _ => true
  | _, .str _ => true
  | _, .ref _ => true
  | n, .tup ds => n != 0 && okIL (n - 1) ds
  | n, .kt ds => n != 0 && okIL (n - 1) ds
  | n, .lst ds => n != 0 && okIL (n - 1) ds
  | n, .kl ds => n != 0 && okIL (n - 1) ds
  | _, .ty _ => false
  | _, .exc _ => false
  | _, .cls _ => false
def okIL : Nat → List D → Bool
  | _, [] => true
  | n, d :: ds => okI n d && okIL n ds
end
end DL
namespace DL
open PySem PySem.Spec PyProof.Rows L2
section
variable {st st' : Sto} {X : PoX} {Q : PoE} {w w' : Wo} {n : Nat} {h k : Int} {x p : Str} {es : List En} {d : D}
def askT (es : List En) (acc : List (Str × D)) : List (Str × D) := es.foldl (fun acc e => if e.kind = "ask" then putT acc e.name (D.bl true) else acc) acc
def foundW (w : Wo) : List (Str × D) := w.logs.foldl (fun acc es => askT es acc) []
def namesW (w : Wo) : List Str := sortT ((foundW w).map (·.1))
/-- a dict of names, so far -/
structure FdOk (acc : List (Str × D)) (b : Nat) : Prop where
  nd : (acc.map (·.1)).Nodup
  nm : ∀ x ∈ acc.map (·.1), nameOk x = true
  ln : acc.length ≤ b
theorem FdOk.put {acc : List (Str × D)} {b : Nat} (f : FdOk acc b) (hx : nameOk x = true) : FdOk (putT acc x (D.bl true)) (b + 1) := by
  refine ⟨?_, fun y hy => ?_, ?_⟩
  · rw [putT_keys]
    split
    · exact f.nd
    · rename_i hn
      rw [List.nodup_append]
      refine ⟨f.nd, by simp, fun a ha b hb => ?_⟩
      rw [List.mem_singleton] at hb
      rw [hb]
      exact fun z => hn (z ▸ ha)
  · rw [putT_keys] at hy
    split at hy
    · exact f.nm y hy
    · rcases List.mem_append.mp hy with hy | hy
      · exact f.nm y hy
      · rw [List.mem_singleton] at hy
        rw [hy]; exact hx
  · have := (putT_len (kvs := acc) (x := x) (v := D.bl true)).2.1
    have := f.ln
    omega
theorem FdOk.log {m : Int} : ∀ {es : List En} {acc : List (Str × D)} {b : Nat}, FdOk acc b → (∀ e ∈ es, e.ok m) → FdOk (askT es acc) (b + es.length)
  | [], acc, b, f, _ => f
  | e :: es, acc, b, f, ho => by
    unfold askT
    rw [List.foldl_cons]
    split
    · have := FdOk.log (es := es) (f.put (ho e List.mem_cons_self).1) fun y hy => ho y (List.mem_cons_of_mem _ hy)
      rw [List.length_cons, show b + (es.length + 1) = b + 1 + es.length by omega]
      exact this
    · have := FdOk.log (es := es) f fun y hy => ho y (List.mem_cons_of_mem _ hy)
      exact ⟨this.nd, this.nm, by have := this.ln; rw [List.length_cons]; unfold askT at this; omega⟩
def hr4 (w : Wo) (x : Str) : Option (Str × Int × Int × Str) := (holdW w x).map fun z => (x, z)
def hd4 (z : Str × Int × Int × Str) : D := .tup [.str z.1, .int z.2.1, .int z.2.2.1, .str z.2.2.2]
def hd3 (z : Str × Int × Int × Str) : D := .tup [.str z.1, .int z.2.1, .str z.2.2.2]
def holdersW (w : Wo) : List (Str × Int × Int × Str) := (namesW w).filterMap (hr4 w)
end
end DL
namespace DL
open PySem PySem.Spec PyProof.Rows L2
/-- what is told of a step -/
inductive Tl where
  | no (y : Str) | yes (l : List (Str × Int × Int × Str))
def Tl.d : Tl → D
  | .no y => .str y
  | .yes l => .tup (l.map hd3)
section
variable {st st' : Sto} {X : PoX} {Q : PoE} {w w' : Wo} {n : Nat} {h k m t : Int} {x p : Str} {es : List En} {d : D}
noncomputable def deOf (m : Int) (d : D) : Option De := @dite _ (dkB m d = true) (instDecidableEqBool _ _) (fun h => some (Classical.choose (dkB_de h))) fun _ => none
/-- the world behind a thing, and what is told of it -/
noncomputable def nextF (w : Wo) (d : D) : Wo × Tl := match deOf w.m d with
  | none => (w, .no "NoDeed")
  | some e => match refusal w e with
    | some y => (w, .no y)
    | none => (behindW w e, .yes (holdersW (behindW w e)))
end
end DL
namespace DL
open PySem PySem.Spec PyProof.Rows L2
section
variable {st st' : Sto} {X : PoX} {Q : PoE} {w w' : Wo} {n : Nat} {h k m t : Int} {x p : Str} {es : List En} {d : D}
noncomputable def runF : Wo → List D → Wo
  | w, [] => w
  | w, d :: r => runF (nextF w d).1 r
end
end DL
namespace DL
open PySem PySem.Spec PyProof.Rows L2
section
variable {n : Nat} {ds : List D} {i : Int} {x : Str} {b : Bool} {q : Addr} {d : D}
@[simp] theorem okI_non : okI n .non = true := by unfold okI; rfl
@[simp] theorem okI_bl : okI n (.bl b) = true := by unfold okI; rfl
@[simp] theorem okI_int : okI n (.int i) = true := by unfold okI; rfl
@[simp] theorem okI_str : okI n (.str x) = true := by unfold okI; rfl
@[simp] theorem okI_ref : okI n (.ref q) = true := by unfold okI; rfl
@[simp] theorem okI_tup : okI n (.tup ds) = (n != 0 && okIL (n - 1) ds) := by conv => lhs; unfold okI
@[simp] theorem okI_lst : okI n (.lst ds) = (n != 0 && okIL (n - 1) ds) := by conv => lhs; unfold okI
@[simp] theorem okIL_nil : okIL n [] = true := by unfold okIL; rfl
@[simp] theorem okIL_cons : okIL n (d :: ds) = (okI n d && okIL n ds) := by conv => lhs; unfold okIL
end
section
variable {st st' : Sto} {X : PoX} {Q : PoE} {w w' : Wo} {n b : Nat} {h k m t : Int} {x p : Str} {es : List En} {d : D} {a q : Addr} {r : List D}
/-- a thing among the deeds -/
structure Dd (st : Sto) (d : D) : Prop where
  k : KD2 st d
  o : okI 20 d = true
theorem Dd.mono (h : Dd st d) (hs : Dks st st') : Dd st' d := ⟨h.k.mono hs, h.o⟩
theorem Dks.del {l : List D} (h : st q = some (.lst l)) : Dks st (st.del q) := fun p hp => by
  rw [Sto.del_ne (fun z => by rw [z, h] at hp; cases hp)]; exact hp
end
end DL
namespace DL
open PySem PySem.Spec PyProof.Rows L2
section
variable {st st' : Sto} {X : PoX} {Q : PoE} {b : Nat} {h k m t : Int} {x p : Str} {d : D} {a q : Addr} {r : List D}
/-- other cells stand -/
def Oth (a : Addr) (st st' : Sto) : Prop := ∀ c, st c ≠ none → c ≠ a → st' c = st c
theorem Oth.refl : Oth a st st := fun _ _ _ => rfl
theorem Oth.trans {s1 s2 s3 : Sto} (h : Oth a s1 s2) (h' : Oth a s2 s3) : Oth a s1 s3 := fun c hc ca => by rw [h' c (by rw [h c hc ca]; exact hc) ca, h c hc ca]
theorem Oth.set {c : Cell} : Oth a st (st.set a c) := fun b _ hb => Sto.set_ne hb
theorem Oth.fresh {c : Cell} (h : st q = none) : Oth a st (st.set q c) := fun b hb _ => Sto.set_ne fun z => hb (by rw [z]; exact h)
theorem Oth.keep (h : Oth a st st') : Oth a st (st'.keepOnly st) := fun c hc ca => by
  unfold Sto.keepOnly
  rw [if_pos (by cases e : st c with | none => exact absurd e hc | some _ => rfl)]
  exact h c hc ca
end
end DL
namespace DL
open PySem PySem.Spec PyProof.Rows L2
section
variable {X : Cx} {E : XK} {a : Expr} {ma : WE} {pos : Pos}
def sqs (st : Sto) (d : D) : Option (List D) := (tpOf d).or (lsOf st d)
def wAsgS (ts : List Tg) (m : WE) : WS := fun E e st => m e st E.ex fun d st1 => on ((sqs st1 d).bind fun ds => asgs ts ds e) fun e1 => E.nx e1 st1
@[simp] theorem wAsgS_ap {ts : List Tg} {m : WE} {E : WEnds} {e : Env} {st : Sto} : wAsgS ts m E e st = m e st E.ex fun d st1 => on ((sqs st1 d).bind fun ds => asgs ts ds e) fun e1 => E.nx e1 st1 := id rfl
end
end DL
namespace DL
section
open PySem
open PySem.Sem (wp)
variable {prog : Program} {w : World} {A : Around} {E : Value → Shared → Prop} {s : Shared}
theorem siter_at {h h' : Heap} {a : Addr} {ty : String} {x : Str} {t : Tok} {i : Nat} (y : h.IsStrIter a ty x t i) (k : ∀ o, h.get? a = some o → h'.get? a = some o) : h'.IsStrIter a ty x t i :=
  let ⟨o, ho, r⟩ := y; ⟨o, k o ho, r⟩
end
section
open PySem PySem.Spec PyProof.Rows L2
variable {X : Cx} {E : XK} {a b : Expr} {m : WA} {p pos : Pos}
/-- a text and a tuple -/
def zipS : List D → Option (Str × List D)
  | [.str g, d] => match tpOf d with
    | some es => if g.length ≤ sizeLine ∧ g.cps.all (· < 128) = true then some (g, es) else none
    | none => none
  | _ => none
def wiZipS (m : WA) : WI := fun e st X Q => m e st X fun as st1 => on (zipS as) fun p => Q (zipL (signs p.1) p.2) (fun _ => True) st1
@[simp] theorem wiZipS_ap {e : DL.Env} {st : Sto} {X : PoX} {QI : List D → (Sto → Prop) → Sto → Prop} : wiZipS m e st X QI = m e st X fun as st1 => on (zipS as) fun p => QI (zipL (signs p.1) p.2) (fun _ => True) st1 := id rfl
end
end DL
namespace DL
open PySem PySem.Spec PyProof.Rows L2
/-- str(x) -/
def cStrD (_ : Sto) : List D → Option D
  | [.int i] => if i.natAbs.log2 < 1920 then some (.str (Str.ofString (toString i))) else none
  | [.str a] => some (.str a)
  | _ => none
theorem cStrD_ok {K : PySem.W.Frag} : CaOk K (fun xs H Q => (∃ i, xs = [.int i] ∧ i.natAbs.log2 < 1920 ∧ Q (.str (toString i)) H) ∨ ∃ a, xs = [.str a] ∧ Q (.str a) H) cStrD := by
  intro B H st xs dxs d Q k r e g
  unfold cStrD at e
  split at e
  · split at e <;> cases e
    rename_i hz
    cases r with
    | cons r1 r2 =>
      cases r2; cases r1
      exact .inl ⟨_, rfl, hz, g.here k (.str _ (signOk_iff.mp (signOk_str _)))⟩
  · cases e
    cases r with
    | cons r1 r2 =>
      cases r2; cases r1
      rename_i ha
      exact .inr ⟨_, rfl, g.here k (.str _ ha)⟩
  · cases e
/-- int(x), of texts too -/
def cIntT (_ : Sto) : List D → Option D
  | [.int i] => some (.int i)
  | [.bl b] => some (.int (if b then 1 else 0))
  | [.str a] => match intText? a with
    | some n => if a.length ≤ 640 then some (.int n) else none
    | none => none
  | _ => none
theorem cIntT_ok {K : PySem.W.Frag} : CaOk K (fun xs H Q => ((∃ i, xs = [.int i] ∧ Q (.int i) H) ∨ ∃ k, xs = [.bl k] ∧ Q (.int (if k then 1 else 0)) H) ∨ ∃ a n, xs = [.str a] ∧ PySem.intText? a = some n ∧ a.length ≤ 640 ∧ Q (.int n) H) cIntT := by
  intro B H st xs dxs d Q k r e g
  unfold cIntT at e
  split at e
  · cases e
    cases r with
    | cons r1 r2 => cases r2; cases r1; exact .inl (.inl ⟨_, rfl, g.here k (.int _)⟩)
  · cases e
    cases r with
    | cons r1 r2 => cases r2; cases r1; exact .inl (.inr ⟨_, rfl, g.here k (.int _)⟩)
  · split at e
    · rename_i n hn
      split at e <;> cases e
      rename_i hz
      cases r with
      | cons r1 r2 => cases r2; cases r1; exact .inr ⟨_, _, rfl, hn, hz, g.here k (.int _)⟩
    · cases e
  · cases e
theorem spl_mem (S : List Nat) : ∀ (l : List Nat) (k : Nat) (acc : List Nat), ∀ p ∈ TL.spl S k acc l, ∀ c ∈ p, c ∈ acc ∨ c ∈ l
  | [], k, acc, p, hp, c, hc => by
    rw [TL.spl_nil, List.mem_singleton] at hp
    subst hp
    exact .inl hc
  | x :: r, k + 1, acc, p, hp, c, hc => by
    rcases spl_mem S r k acc p hp c hc with h | h
    · exact .inl h
    · exact .inr (List.mem_cons_of_mem _ h)
  | x :: r, 0, acc, p, hp, c, hc => by
    cases hh : TL.pre S (x :: r) with
    | true =>
      rw [TL.spl_hit hh] at hp
      rcases List.mem_cons.mp hp with rfl | hp
      · exact .inl hc
      · rcases spl_mem S r _ [] p hp c hc with h | h
        · cases h
        · exact .inr (List.mem_cons_of_mem _ h)
    | false =>
      rw [TL.spl_miss hh] at hp
      rcases spl_mem S r _ _ p hp c hc with h | h
      · rcases List.mem_append.mp h with h | h
        · exact .inl h
        · rw [List.mem_singleton] at h
          subst h
          exact .inr List.mem_cons_self
      · exact .inr (List.mem_cons_of_mem _ h)
theorem spl_len (S : List Nat) : ∀ (l : List Nat) (k : Nat) (acc : List Nat), (TL.spl S k acc l).length ≤ l.length + 1
  | [], k, acc => by rw [TL.spl_nil]; simp
  | x :: r, k + 1, acc => Nat.le_trans (spl_len S r k acc) (by simp)
  | x :: r, 0, acc => by
    cases hh : TL.pre S (x :: r) with
    | true =>
      rw [TL.spl_hit hh, List.length_cons, List.length_cons]
      have := spl_len S r (S.length - 1) []
      omega
    | false =>
      rw [TL.spl_miss hh, List.length_cons]
      have := spl_len S r 0 (acc ++ [x])
      omega
def splitOk (a b : Str) : Prop := b.length ≠ 0 ∧ a.length + 2 ≤ sizeLine ∧ b.cps.all (· < 256) = true
instance {a b : Str} : Decidable (splitOk a b) := by unfold splitOk; infer_instance
theorem split_tl {a b : Str} (h : splitOk a b) : (Txt.split a b).map TL.tl = TL.spl (TL.tl b) 0 [] (TL.tl a) := TL.split_spl a b (fun z => h.1 ((TL.len0_tl b).mpr z)) (TL.kind_ok h.2.2)
theorem split_okS {a b : Str} (h : splitOk a b) (ha : okS a = true) : ∀ y ∈ Txt.split a b, okS y = true := fun y hy => by
  have h1 : TL.tl y ∈ TL.spl (TL.tl b) 0 [] (TL.tl a) := by rw [← split_tl h]; exact List.mem_map_of_mem hy
  unfold okS PyData.strOk at ha ⊢
  rw [← Array.all_toList, List.all_eq_true] at ha ⊢
  intro c hc
  rcases spl_mem _ _ _ _ _ h1 c hc with z | z
  · cases z
  · exact ha c z
theorem split_len {a b : Str} (h : splitOk a b) : (Txt.split a b).length ≤ a.length + 1 := by
  have e : (Txt.split a b).length = (TL.spl (TL.tl b) 0 [] (TL.tl a)).length := by rw [← split_tl h, List.length_map]
  rw [e, TL.len_tl a]
  exact spl_len _ _ _ _
def mSplit (st : Sto) (x : D) (as : List D) : Option (D × Sto) := match x, as with
  | .str a, [.str b] => if splitOk a b then some (.lst ((Txt.split a b).map D.str), st) else none
  | _, _ => none
theorem mSplit_ok {K : PySem.W.Frag} : MeOk K (fun x xs H Q => ∃ a b, x = .str a ∧ xs = [.str b] ∧ (b.length == 0) = false ∧ a.length + 2 ≤ sizeLine ∧ L2.rNewStrs (Txt.split a b) H Q) mSplit := by
  intro B H st x dx xs dxs d st' Q k rx rs e g
  unfold mSplit at e
  split at e
  · rename_i a b
    split at e <;> cases e
    rename_i ok
    cases rx with
    | str _ ha =>
      cases rs with
      | cons r1 r2 =>
        cases r2
        cases r1
        refine ⟨_, _, rfl, rfl, by simpa using ok.1, ok.2.1, fun p hp => ?_⟩
        obtain ⟨x1, k1, r1⟩ := new_lst k hp (repL_strs _ (split_okS ok ha)) (by rw [List.length_map]; have := split_len ok; have := ok.2.1; omega)
        exact g _ _ x1 k1 r1
  · cases e
section
variable {X : Cx} {E : XK} {a o : Expr} {mo : WE} {n : Nat} {m : WA} {apos cpos pos p : Pos}
theorem e_split (ho : PEw X E o mo) (ha : PAw X E [a] n m) (hbase : attributeBase o "split" X.env (eval o X.env) = eval o X.env := by rfl)
    (hfew : ((backTo cpos (starEach [a] X.env)).all (fun x => !x.1) && (backToKw cpos (keywordEach [] X.env)).all (fun x => x.1.isSome)
      && decide ([a].length + ([] : List Keyword).length + (if ([] : List Keyword).isEmpty then 0 else 1) < 30)) = true := by rfl)
    (hline : (apos.endLine == cpos.line) = true := by rfl) (hs : starEach [a] X.env = (false, eval a X.env) :: starEach [] X.env := by rfl) : PEw X E (.Call (.Attribute o "split" apos) [a] [] cpos) (wMeth "str" mSplit mo m) :=
  e_bm (.inr (.inr rfl)) PySem.F.plainAttrs_str PySem.F.slot_str_split PySem.F.type_str_split mt_split mSplit_ok ho ha hbase hfew hline hs rfl
theorem e_strD (fr : Frees X.mg) (ha : PAw X E [a] n m) (hg : Gl X "str" := by rfl) (he : starEach [a] X.env = (false, eval a X.env) :: starEach [] X.env := by rfl) : PEw X E (.Call (.Name "str" p) [a] [] pos) (wCall cStrD m) :=
  e_ct (call_str_int.or SkE.call_str_str) cStrD_ok hg fr.str (by decide +kernel) ha (by decide) (by decide) he rfl
theorem e_tointT (fr : Frees X.mg) (ha : PAw X E [a] n m) (hg : Gl X "int" := by rfl) (he : starEach [a] X.env = (false, eval a X.env) :: starEach [] X.env := by rfl) : PEw X E (.Call (.Name "int" p) [a] [] pos) (wCall cIntT m) :=
  e_ct (call_int1.or call_int_str) cIntT_ok hg fr.int (by decide +kernel) ha (by decide) (by decide) he rfl
end
end DL
namespace DL
section
open PySem
open PySem.Sem (wp)
variable {prog : Program} {w : World} {A : Around} {E : Value → Shared → Prop} {s : Shared}
theorem zipN_next_item {z TI TO i1 i2 l2 : Addr} {k1 k2 : Nat} {g : Str} {t : Tok} {ys : Array Value} {c : Nat} {y a b : Value} {Q : Value → Shared → Prop} (D : ZipApart z TI TO i1 i2 l2 l2)
    (hz : IsZip s.heap z TI TO .none) (hTI : IsPair s.heap TI (.ref i1) (.ref i2)) (hTO : IsPair s.heap TO a b)
    (h1 : s.heap.IsStrIter i1 "str_ascii_iterator" g t k1) (h2 : s.heap.IsListIter i2 l2 k2) (hl2 : s.heap.IsList l2 ys) (hx : g.cps[k1]? = some c) (hy : ys[k2]? = some y)
    (hQ : ∀ h', IsZip h' z TI TO (rawInt s.heap.objs.size) → IsPair h' TO (.str ⟨#[c]⟩ s.toks) y → h'.IsStrIter i1 "str_ascii_iterator" g t (k1 + 1) → h'.IsListIter i2 l2 (k2 + 1) → IsPair h' s.heap.objs.size (.str ⟨#[c]⟩ s.toks) y → h'.objs.size = s.heap.objs.size + 1 →
      (∀ c o, c ≠ z → c ≠ TO → c ≠ i1 → c ≠ i2 → s.heap.get? c = some o → h'.get? c = some o) → Q (.ref s.heap.objs.size) { s with heap := h', toks := s.toks + 1 }) :
    wpAny (model prog w) A (Builtin.«zip.__next__» ⟨[.ref z], []⟩) (fun fin s' => ∃ v, fin = .done (.ret v) ∧ Q v s') E s := by
  show wpAny _ _ (field (.ref z) 2 >>= _) _ _ _
  refine wpAny_bind (wpAny_field hz rfl (x := .bool false) rfl ?_)
  show wpAny _ _ (field (.ref z) 3 >>= _) _ _ _
  refine wpAny_bind (wpAny_field hz rfl (x := .ref TI) rfl ?_)
  refine wpAny_bind (wpAny_seqItems hTI rfl ?_)
  show wpAny _ _ (Builtin.SmallTypes.ownedTupleIsFree (.ref z) >>= _) _ _ _
  refine wpAny_bind ?_
  unfold Builtin.SmallTypes.ownedTupleIsFree
  refine wpAny_bind (wpAny_field hz rfl (x := .none) rfl (wpAny_pure ?_))
  simp only [if_true]
  refine wpAny_bind (wpAny_rule ?_)
  refine wpAny_bind (wpAny_field hz rfl (x := .ref TO) rfl ?_)
  refine wpAny_bind (wpAny_setField_rec hz (by simp) fun h₁ hz₁ hs₁ => ?_)
  replace hz₁ : IsZip h₁ z TI TO .ellipsis := hz₁
  refine wpAny_bind ?_
  simp only [List.zipIdx_cons, List.zipIdx_nil, List.forIn_cons, List.forIn_nil]
  refine wpAny_bind (wpAny_bind (wpAny_onRaise ?_))
  show wpAny _ _ (Builtin.SmallTypes.nextOf (.ref i1) >>= _) _ _ _
  refine wpAny_bind (wpAny_nextOf_ascii_item (h1.extBut hs₁.extBut D.i1z) hx fun h₂ h1₂ hs₂ => wpAny_pure ?_)
  have hTO₂ : IsPair h₂ TO a b := hs₂.extBut _ _ D.TOi1 (hs₁.extBut _ _ D.TOz hTO)
  refine wpAny_bind (wpAny_seqItems hTO₂ rfl ?_)
  refine wpAny_bind (wpAny_updateSeq_pair hTO₂ fun h₃ hTO₃ hs₃ => ?_)
  replace hTO₃ : IsPair h₃ TO (.str ⟨#[c]⟩ s.toks) b := hTO₃
  refine wpAny_bind (wpAny_letGo (wpAny_pure ?_))
  refine wpAny_bind (wpAny_bind (wpAny_onRaise ?_))
  show wpAny _ _ (Builtin.SmallTypes.nextOf (.ref i2) >>= _) _ _ _
  refine wpAny_bind (wpAny_nextOf_list_item (((h2.extBut hs₁.extBut D.i2z).extBut hs₂.extBut D.i12.symm).extBut hs₃.extBut D.TOi2.symm)
    (((hl2.extBut hs₁.extBut D.l2z).extBut hs₂.extBut D.l2i1).extBut hs₃.extBut D.l2TO) hy fun h₄ h2₄ hs₄ => wpAny_pure ?_)
  have hTO₄ : IsPair h₄ TO (.str ⟨#[c]⟩ s.toks) b := hs₄.extBut _ _ D.TOi2 hTO₃
  refine wpAny_bind (wpAny_seqItems hTO₄ rfl ?_)
  refine wpAny_bind (wpAny_updateSeq_pair hTO₄ fun h₅ hTO₅ hs₅ => ?_)
  replace hTO₅ : IsPair h₅ TO (.str ⟨#[c]⟩ s.toks) y := hTO₅
  refine wpAny_bind (wpAny_letGo (wpAny_pure (wpAny_pure ?_)))
  refine wpAny_bind (wpAny_seqItems hTO₅ rfl ?_)
  refine wpAny_bind (wpAny_newTuple ?_)
  have hsz : h₅.objs.size = s.heap.objs.size := by rw [hs₅.1, hs₄.1, hs₃.1, hs₂.1, hs₁.1]
  have hz₅ : IsZip h₅ z TI TO .ellipsis := hs₅.extBut _ _ D.TOz.symm (hs₄.extBut _ _ D.i2z.symm (hs₃.extBut _ _ D.TOz.symm (hs₂.extBut _ _ D.i1z.symm hz₁)))
  have hk₅ : ∀ c o, c ≠ z → c ≠ TO → c ≠ i1 → c ≠ i2 → s.heap.get? c = some o → h₅.get? c = some o := fun c o c1 c2 c3 c4 e =>
    hs₅.extBut _ _ c2 (hs₄.extBut _ _ c4 (hs₃.extBut _ _ c2 (hs₂.extBut _ _ c3 (hs₁.extBut _ _ c1 e))))
  have h1₅ : h₅.IsStrIter i1 "str_ascii_iterator" g t (k1 + 1) := ((h1₂.extBut hs₃.extBut D.TOi1.symm).extBut hs₄.extBut D.i12).extBut hs₅.extBut D.TOi1.symm
  have h2₅ : h₅.IsListIter i2 l2 (k2 + 1) := h2₄.extBut hs₅.extBut D.TOi2.symm
  have hzlt : z < h₅.objs.size := Heap.lt_size hz₅
  show wpAny _ _ (Builtin.SmallTypes.ownedTupleHandOut (.ref z) (.ref h₅.objs.size) >>= _) _ _ _
  refine wpAny_bind ?_
  unfold Builtin.SmallTypes.ownedTupleHandOut
  have hz₆ : IsZip (h₅.push { cls := .type "tuple", data := .seq #[.str ⟨#[c]⟩ s.toks, y] }) z TI TO .ellipsis := Heap.get?_push_of_some _ hz₅
  refine wpAny_bind (wpAny_setField_rec hz₆ (by simp) fun h₇ hz₇ hs₇ => ?_)
  replace hz₇ : IsZip h₇ z TI TO (rawInt h₅.objs.size) := hz₇
  refine wpAny_setField_rec hz₇ (by simp) fun h₈ hz₈ hs₈ => ?_
  replace hz₈ : IsZip h₈ z TI TO (rawInt h₅.objs.size) := hz₈
  have up : ∀ c o, c ≠ z → h₅.get? c = some o → h₈.get? c = some o := fun c o c1 e => hs₈.extBut _ _ c1 (hs₇.extBut _ _ c1 (Heap.get?_push_of_some _ e))
  have hT₈ : IsPair h₈ h₅.objs.size (.str ⟨#[c]⟩ s.toks) y := hs₈.extBut _ _ (Nat.ne_of_gt hzlt) (hs₇.extBut _ _ (Nat.ne_of_gt hzlt) (Heap.get?_push_size _ rfl))
  have hz8 : h₈.objs.size = h₅.objs.size + 1 := by rw [hs₈.1, hs₇.1, Heap.size_push]
  rw [hsz] at hz₈ hT₈ hz8
  refine wpAny_pure ⟨_, rfl, ?_⟩
  show Q (.ref h₅.objs.size) _
  rw [hsz]
  exact hQ h₈ hz₈ (up _ _ D.TOz hTO₅) (siter_at h1₅ fun o e => up _ o D.i1z e) (h2₅.at fun o e => up _ o D.i2z e) hT₈ hz8 fun c o c1 c2 c3 c4 e => up c o c1 (hk₅ c o c1 c2 c3 c4 e)
theorem zipN_next_end {z TI TO i1 i2 l2 : Addr} {k1 k2 : Nat} {g : Str} {t : Tok} {ys : Array Value} {a b : Value} {Q : Fin → Shared → Prop} (hh : A.handled = none) (D : ZipApart z TI TO i1 i2 l2 l2)
    (hz : IsZip s.heap z TI TO .none) (hTI : IsPair s.heap TI (.ref i1) (.ref i2)) (hTO : IsPair s.heap TO a b)
    (h1 : s.heap.IsStrIter i1 "str_ascii_iterator" g t k1) (h2 : s.heap.IsListIter i2 l2 k2) (hl2 : s.heap.IsList l2 ys) (hend : g.cps[k1]? = none ∨ ys[k2]? = none)
    (hE : ∀ h' e tk, (∀ c o, c ≠ z → c ≠ TO → c ≠ i1 → c ≠ i2 → s.heap.get? c = some o → h'.get? c = some o) → (∃ o, h'.get? e = some o ∧ o.cls = .type "StopIteration") → E (.ref e) { s with heap := h', toks := tk }) :
    wpAny (model prog w) A (Builtin.«zip.__next__» ⟨[.ref z], []⟩) Q E s := by
  show wpAny _ _ (field (.ref z) 2 >>= _) _ _ _
  refine wpAny_bind (wpAny_field hz rfl (x := .bool false) rfl ?_)
  show wpAny _ _ (field (.ref z) 3 >>= _) _ _ _
  refine wpAny_bind (wpAny_field hz rfl (x := .ref TI) rfl ?_)
  refine wpAny_bind (wpAny_seqItems hTI rfl ?_)
  show wpAny _ _ (Builtin.SmallTypes.ownedTupleIsFree (.ref z) >>= _) _ _ _
  refine wpAny_bind ?_
  unfold Builtin.SmallTypes.ownedTupleIsFree
  refine wpAny_bind (wpAny_field hz rfl (x := .none) rfl (wpAny_pure ?_))
  simp only [if_true]
  refine wpAny_bind (wpAny_rule ?_)
  refine wpAny_bind (wpAny_field hz rfl (x := .ref TO) rfl ?_)
  refine wpAny_bind (wpAny_setField_rec hz (by simp) fun h₁ hz₁ hs₁ => ?_)
  replace hz₁ : IsZip h₁ z TI TO .ellipsis := hz₁
  refine wpAny_bind ?_
  simp only [List.zipIdx_cons, List.zipIdx_nil, List.forIn_cons, List.forIn_nil]
  refine wpAny_bind (wpAny_bind (wpAny_onRaise ?_))
  show wpAny _ _ (Builtin.SmallTypes.nextOf (.ref i1) >>= _) _ _ _
  cases hx : g.cps[k1]? with
  | none =>
    refine wpAny_bind (wpAny_nextOf_ascii_end hh (h1.extBut hs₁.extBut D.i1z) hx fun h₂ e hs₂ he => ?_)
    obtain ⟨oe, hoe, hce⟩ := he
    have hz₂ : IsZip h₂ z TI TO .ellipsis := hs₂ _ _ D.i1z.symm hz₁
    have hez : e ≠ z := fun x => by subst x; rw [hz₂] at hoe; cases hoe; simp at hce
    refine wpAny_setField_rec hz₂ (by simp) fun h₃ _ hs₃ => hE h₃ e _ (fun c o c1 _ c3 _ x => hs₃.extBut _ _ c1 (hs₂ _ _ c3 (hs₁.extBut _ _ c1 x))) ⟨oe, hs₃.extBut _ _ hez hoe, hce⟩
  | some x =>
    have hy : ys[k2]? = none := by rcases hend with h | h; rw [hx] at h; cases h; exact h
    refine wpAny_bind (wpAny_nextOf_ascii_item (h1.extBut hs₁.extBut D.i1z) hx fun h₂ h1₂ hs₂ => wpAny_pure ?_)
    have hTO₂ : IsPair h₂ TO a b := hs₂.extBut _ _ D.TOi1 (hs₁.extBut _ _ D.TOz hTO)
    refine wpAny_bind (wpAny_seqItems hTO₂ rfl ?_)
    refine wpAny_bind (wpAny_updateSeq_pair hTO₂ fun h₃ hTO₃ hs₃ => ?_)
    refine wpAny_bind (wpAny_letGo (wpAny_pure ?_))
    refine wpAny_bind (wpAny_bind (wpAny_onRaise ?_))
    show wpAny _ _ (Builtin.SmallTypes.nextOf (.ref i2) >>= _) _ _ _
    refine wpAny_bind (wpAny_nextOf_list_end hh (((h2.extBut hs₁.extBut D.i2z).extBut hs₂.extBut D.i12.symm).extBut hs₃.extBut D.TOi2.symm)
      (((hl2.extBut hs₁.extBut D.l2z).extBut hs₂.extBut D.l2i1).extBut hs₃.extBut D.l2TO) hy fun h₄ e hs₄ he => ?_)
    obtain ⟨oe, hoe, hce⟩ := he
    have hz₄ : IsZip h₄ z TI TO .ellipsis := hs₄ _ _ D.i2z.symm (hs₃.extBut _ _ D.TOz.symm (hs₂.extBut _ _ D.i1z.symm hz₁))
    have hez : e ≠ z := fun x => by subst x; rw [hz₄] at hoe; cases hoe; simp at hce
    refine wpAny_setField_rec hz₄ (by simp) fun h₅ _ hs₅ => hE h₅ e _ (fun c o c1 c2 c3 c4 x => hs₅.extBut _ _ c1 (hs₄ _ _ c4 (hs₃.extBut _ _ c2 (hs₂.extBut _ _ c3 (hs₁.extBut _ _ c1 x))))) ⟨oe, hs₅.extBut _ _ hez hoe, hce⟩
theorem pyNext_zipN_item {z TI TO i1 i2 l2 : Addr} {k1 k2 : Nat} {g : Str} {t : Tok} {ys : Array Value} {c : Nat} {y a b : Value} {Q : Option Value → Shared → Prop} (D : ZipApart z TI TO i1 i2 l2 l2)
    (hz : IsZip s.heap z TI TO .none) (hTI : IsPair s.heap TI (.ref i1) (.ref i2)) (hTO : IsPair s.heap TO a b)
    (h1 : s.heap.IsStrIter i1 "str_ascii_iterator" g t k1) (h2 : s.heap.IsListIter i2 l2 k2) (hl2 : s.heap.IsList l2 ys) (hx : g.cps[k1]? = some c) (hy : ys[k2]? = some y)
    (hQ : ∀ h', IsZip h' z TI TO (rawInt s.heap.objs.size) → IsPair h' TO (.str ⟨#[c]⟩ s.toks) y → h'.IsStrIter i1 "str_ascii_iterator" g t (k1 + 1) → h'.IsListIter i2 l2 (k2 + 1) → IsPair h' s.heap.objs.size (.str ⟨#[c]⟩ s.toks) y → h'.objs.size = s.heap.objs.size + 1 →
      (∀ c o, c ≠ z → c ≠ TO → c ≠ i1 → c ≠ i2 → s.heap.get? c = some o → h'.get? c = some o) → Q (some (.ref s.heap.objs.size)) { s with heap := h', toks := s.toks + 1 }) :
    wpAny (model prog w) A (pyNext (.ref z)) Q E s := by
  have hT : s.TypeIs (.ref z) "zip" := ⟨_, hz, rfl⟩
  unfold pyNext
  exact wpAny_bind (wpAny_attempt (wpAny_callSpecial?_slot (name := Str.ofString "__next__") hT F.slot_zip_next
    (wpAny_call_entry F.slot_zip_next hT F.entry_zip_next
      (zipN_next_item D hz hTI hTO h1 h2 hl2 hx hy fun h' a1 a2 a3 a4 a5 a6 a7 => wpAny_pure (hQ h' a1 a2 a3 a4 a5 a6 a7)) (F.args_zip_next_1 _))))
theorem pyNext_zipN_end {z TI TO i1 i2 l2 : Addr} {k1 k2 : Nat} {g : Str} {t : Tok} {ys : Array Value} {a b : Value} {Q : Option Value → Shared → Prop} (hh : A.handled = none) (D : ZipApart z TI TO i1 i2 l2 l2)
    (hz : IsZip s.heap z TI TO .none) (hTI : IsPair s.heap TI (.ref i1) (.ref i2)) (hTO : IsPair s.heap TO a b)
    (h1 : s.heap.IsStrIter i1 "str_ascii_iterator" g t k1) (h2 : s.heap.IsListIter i2 l2 k2) (hl2 : s.heap.IsList l2 ys) (hend : g.cps[k1]? = none ∨ ys[k2]? = none)
    (hQ : ∀ h' tk, (∀ c o, c ≠ z → c ≠ TO → c ≠ i1 → c ≠ i2 → s.heap.get? c = some o → h'.get? c = some o) → Q none { s with heap := h', toks := tk }) : wpAny (model prog w) A (pyNext (.ref z)) Q E s := by
  have hT : s.TypeIs (.ref z) "zip" := ⟨_, hz, rfl⟩
  unfold pyNext
  refine wpAny_bind (wpAny_attempt (wpAny_callSpecial?_slot (name := Str.ofString "__next__") hT F.slot_zip_next
    (wpAny_call_entry F.slot_zip_next hT F.entry_zip_next (zipN_next_end hh D hz hTI hTO h1 h2 hl2 hend fun h' e tk hk he => ?_) (F.args_zip_next_1 _))))
  obtain ⟨o, ho, hc⟩ := he
  refine wpAny_bind (wpAny_isInstance (T := "StopIteration") (b := true) ⟨o, ho, hc⟩ isSubtype_stop ?_)
  exact wpAny_pure (hQ _ _ hk)
abbrev zipNH1 (h : Heap) (g : Str) (t : Tok) : Heap := h.push { cls := .type "str_ascii_iterator", data := .fields #[.str g t, .int 0 0] }
abbrev zipNH2 (h : Heap) (g : Str) (t : Tok) (l2 : Addr) : Heap := (zipNH1 h g t).push { cls := .type "list_iterator", data := .fields #[.ref l2, .int 0 0] }
abbrev zipNH3 (h : Heap) (g : Str) (t : Tok) (l2 : Addr) : Heap := (zipNH2 h g t l2).push { cls := .type "tuple", data := .seq #[.ref h.objs.size, .ref (zipNH1 h g t).objs.size] }
abbrev zipNH4 (h : Heap) (g : Str) (t : Tok) (l2 : Addr) : Heap := (zipNH3 h g t l2).push { cls := .type "tuple", data := .seq #[.none, .none] }
abbrev zipNH5 (h : Heap) (g : Str) (t : Tok) (l2 : Addr) : Heap := (zipNH4 h g t l2).push { cls := .type "zip", data := .fields #[.none, .bool false, .bool false, .ref (zipNH2 h g t l2).objs.size, .ref (zipNH3 h g t l2).objs.size] }
theorem meets_zipN_new (g : Str) (t : Tok) (l2 : Addr) (ys : Array Value) (ha : g.cps.all (· < 128) = true) :
    Meets (Builtin.«zip.__new__» ⟨[.type "zip", .str g t, .ref l2], []⟩) (fun _ R s => s.heap.IsList l2 ys ∧
      R (.ok (.ret (.ref (zipNH4 s.heap g t l2).objs.size))) { s with heap := zipNH5 s.heap g t l2 }) :=
  .of_wp fun prog w A R s h => by
    obtain ⟨hp, gg, d, tk, os⟩ := s; obtain ⟨hl2, h⟩ := h
    have hsub := sub_zip
    have hL2 : Heap.IsList (Shared.heap ⟨hp.push { cls := .type "str_ascii_iterator", data := .fields #[.str g t, .int 0 0] }, gg, d, tk, os⟩) l2 ys := Heap.IsList.push hl2 _
    wp_walk using wpAny_pyIter_ascii (t := t) ha, wpAny_pyIter_list hL2
    exact ⟨_, rfl, h⟩
theorem call_zipN {g : Str} {t : Tok} {l2 : Addr} {ys : Array Value} {Q : Value → Shared → Prop} (ha : g.cps.all (· < 128) = true) (hl2 : s.heap.IsList l2 ys)
    (h : ∀ h', IsZip h' (s.heap.objs.size + 4) (s.heap.objs.size + 2) (s.heap.objs.size + 3) .none → IsPair h' (s.heap.objs.size + 2) (.ref s.heap.objs.size) (.ref (s.heap.objs.size + 1)) →
      IsPair h' (s.heap.objs.size + 3) .none .none → h'.IsStrIter s.heap.objs.size "str_ascii_iterator" g t 0 → h'.IsListIter (s.heap.objs.size + 1) l2 0 → h'.objs.size = s.heap.objs.size + 5 →
      (∀ c o, s.heap.get? c = some o → h'.get? c = some o) → Q (.ref (s.heap.objs.size + 4)) { s with heap := h' }) :
    wpAny (model prog w) A (call (.type "zip") [.str g t, .ref l2]) Q E s := by
  refine callType_new F.called_zip (by decide) (F.typeCall_zip_2 _ _) (F.newCall_zip_2 _ _) (fun obj => F.args_object_init_3 obj _ _) F.entry_zip_new
    (meets_zipN_new g t l2 ys ha) ⟨hl2, ?_⟩
  have z1 : (zipNH1 s.heap g t).objs.size = s.heap.objs.size + 1 := Heap.size_push ..
  have z2 : (zipNH2 s.heap g t l2).objs.size = s.heap.objs.size + 2 := by rw [Heap.size_push, z1]
  have z3 : (zipNH3 s.heap g t l2).objs.size = s.heap.objs.size + 3 := by rw [Heap.size_push, z2]
  have z4 : (zipNH4 s.heap g t l2).objs.size = s.heap.objs.size + 4 := by rw [Heap.size_push, z3]
  have z5 : (zipNH5 s.heap g t l2).objs.size = s.heap.objs.size + 5 := by rw [Heap.size_push, z4]
  have g5 : (zipNH5 s.heap g t l2).get? (zipNH4 s.heap g t l2).objs.size = some _ := Heap.get?_push_size _ rfl
  have g4 : (zipNH5 s.heap g t l2).get? (zipNH3 s.heap g t l2).objs.size = some _ := Heap.get?_push_of_some _ (Heap.get?_push_size _ rfl)
  have g3 : (zipNH5 s.heap g t l2).get? (zipNH2 s.heap g t l2).objs.size = some _ := Heap.get?_push_of_some _ (Heap.get?_push_of_some _ (Heap.get?_push_size _ rfl))
  have g2 : (zipNH5 s.heap g t l2).get? (zipNH1 s.heap g t).objs.size = some _ := Heap.get?_push_of_some _ (Heap.get?_push_of_some _ (Heap.get?_push_of_some _ (Heap.get?_push_size _ rfl)))
  have g1 : (zipNH5 s.heap g t l2).get? s.heap.objs.size = some _ := Heap.get?_push_of_some _ (Heap.get?_push_of_some _ (Heap.get?_push_of_some _ (Heap.get?_push_of_some _ (Heap.get?_push_size _ rfl))))
  show _ ∧ _
  rw [z2, z3, z4] at g5
  rw [z1, z2] at g3
  rw [z3] at g4
  rw [z1] at g2
  rw [z4]
  exact ⟨⟨_, g5, rfl⟩, h _ g5 g3 g4 ⟨_, g1, rfl, rfl⟩ ⟨_, g2, rfl, rfl⟩ z5 fun c o x =>
    Heap.get?_push_of_some _ (Heap.get?_push_of_some _ (Heap.get?_push_of_some _ (Heap.get?_push_of_some _ (Heap.get?_push_of_some _ x))))⟩
end
section
open PySem PySem.Spec PyProof.Rows L2
/-- a text with the tuple at b, the items in new pairs -/
def ItzN (K : PySem.W.Frag) (g : Str) (b : Addr) : It :=
  ⟨fun i H => ∃ (ys : List V) (c : Nat) (y : V), SqL K H b ys ∧ g.cps[i]? = some c ∧ ys[i]? = some y,
    fun i H v H' => ∃ T c y, v = .ref T ∧ H T = none ∧ H' = L2.upd H T (.tup [.str ⟨#[c]⟩, y]) ∧ g.cps[i]? = some c ∧ ∀ ys, SqL K H b ys → ys[i]? = some y,
    fun i H => ∃ ys : List V, SqL K H b ys ∧ (g.cps.size ≤ i ∨ ys.length ≤ i)⟩
theorem turn_zipN {P : Program} {w : World} {K : PySem.W.Frag} {elts : List Expr} {kk : Nat} {tpos : Pos} {g : Str} {t : Tok} {b z TI TO i1 i2 : Addr} (D : ZipApart z TI TO i1 i2 b b) :
    Turn P w K (.Tuple elts kk tpos) (ItzN K g b) [z, TI, TO, i1, i2] z (fun i h => IsZip h z TI TO .none ∧ IsPair h TI (.ref i1) (.ref i2) ∧ (∃ x y, IsPair h TO x y) ∧ h.IsStrIter i1 "str_ascii_iterator" g t i ∧ h.IsListIter i2 b i) where
  mem := by simp
  obj := fun i h st c hc => by
    obtain ⟨hz, hTI, ⟨x, y, hTO⟩, ⟨o1, e1, _, d1⟩, ⟨o2, e2, _, d2⟩⟩ := st
    have e' : c = z ∨ c = TI ∨ c = TO ∨ c = i1 ∨ c = i2 := by simpa using hc
    rcases e' with q | q | q | q | q
    · rw [q]; exact ⟨_, hz, fun v q => nomatch q⟩
    · rw [q]; exact ⟨_, hTI, fun v q => nomatch q⟩
    · rw [q]; exact ⟨_, hTO, fun v q => nomatch q⟩
    · rw [q]; exact ⟨o1, e1, fun v q => by rw [d1] at q; cases q⟩
    · rw [q]; exact ⟨o2, e2, fun v q => by rw [d2] at q; cases q⟩
  keep := fun i h h' st k => by
    obtain ⟨hz, hTI, ⟨x, y, hTO⟩, h1, h2⟩ := st
    exact ⟨k z (by simp) _ hz, k TI (by simp) _ hTI, ⟨x, y, k TO (by simp) _ hTO⟩, siter_at h1 fun o q => k i1 (by simp) o q, h2.at fun o q => k i2 (by simp) o q⟩
  item := by
    intro X hP hw hK hc i pins s σ H E I hf st hg
    subst hP hw hK
    obtain ⟨hz, hTI, ⟨x0, y0, hTO⟩, h1, h2⟩ := st
    obtain ⟨ys, c, y, hqy, hx, hy⟩ := hg
    obtain ⟨its2, rv2, p2, _⟩ := I.list hqy
    obtain ⟨u2, hu2, ru2⟩ := rv2.get hy
    have hzl : z < s.heap.objs.size := Heap.lt_size hz
    refine pyNext_zipN_item D hz hTI hTO h1 h2 p2.isList hx (y := u2) (by simpa using hu2) fun h' z' TO' h1' h2' hT hsz hk => ?_
    refine ⟨_, rfl, wpAny_letOwnedTupleGo_zip (s := { s with heap := h', toks := s.toks + 1 }) z' fun h'' z'' sb => ?_⟩
    have hT2 : h''.get? s.heap.objs.size = some { cls := .type "tuple", data := .seq #[.str ⟨#[c]⟩ s.toks, u2] } := (sb.2 _ (Nat.ne_of_gt hzl)).trans hT
    have new : ObjOk X.prog X.w (L2.upd H s.heap.objs.size (.tup [.str ⟨#[c]⟩, y])) h'' s.heap.objs.size (.tup [.str ⟨#[c]⟩, y]) :=
      ⟨by show 2 ≤ sizeLine; decide, [.str ⟨#[c]⟩ s.toks, u2], .cons ⟨_, rfl⟩ (.cons ru2 .nil), ⟨_, hT2, rfl, _, rfl⟩⟩
    have I1 : Inv X pins σ (L2.upd H s.heap.objs.size (.tup [.str ⟨#[c]⟩, y])) { s with heap := h'', toks := s.toks + 1 } :=
      I.turnedNew (t' := s.toks + 1) (ch := [z, TI, TO, i1, i2]) (fun c o hb q => (sb.2 c (fun q' => hb (by simp [q']))).trans (hk c o (fun q' => hb (by simp [q'])) (fun q' => hb (by simp [q'])) (fun q' => hb (by simp [q'])) (fun q' => hb (by simp [q'])) q)) hf (Nat.le_refl _) new
    refine ⟨.ref s.heap.objs.size, _, I1, rfl, ⟨_, c, y, rfl, I.hok.fresh (Nat.le_refl _), rfl, hx, fun l hl => by rw [I.list_inj hl hqy]; exact hy⟩, ⟨z'', ?_, ⟨.str ⟨#[c]⟩ s.toks, u2, ?_⟩, ?_, ?_⟩, fun c hcm => ?_⟩
    · exact (sb.2 _ D.TIz).trans (hk _ _ D.TIz D.TITO D.TIi1 D.TIi2 hTI)
    · exact (sb.2 _ D.TOz).trans TO'
    · exact siter_at h1' fun o q => (sb.2 _ D.i1z).trans q
    · exact h2'.at fun o q => (sb.2 _ D.i2z).trans q
    · have hlt : c < s.heap.objs.size := by
        have e' : c = z ∨ c = TI ∨ c = TO ∨ c = i1 ∨ c = i2 := by simpa using hcm
        rcases e' with q | q | q | q | q
        · rw [q]; exact hzl
        · rw [q]; exact Heap.lt_size hTI
        · rw [q]; exact Heap.lt_size hTO
        · rw [q]; obtain ⟨_, e1, _⟩ := h1; exact Heap.lt_size e1
        · rw [q]; obtain ⟨_, e2, _⟩ := h2; exact Heap.lt_size e2
      rw [L2.upd_ne (Nat.ne_of_lt hlt)]
      exact (hf c hcm).1
  done := by
    intro X hP hw hK hc i pins s σ H E I hf st hg
    subst hP hw hK
    obtain ⟨hz, hTI, ⟨x0, y0, hTO⟩, h1, h2⟩ := st
    obtain ⟨ys, hqy, hend⟩ := hg
    obtain ⟨its2, rv2, p2, _⟩ := I.list hqy
    have l2 := rv2.length
    have he : g.cps[i]? = none ∨ its2.toArray[i]? = none := by
      rcases hend with q | q
      · exact .inl (Array.getElem?_eq_none q)
      · exact .inr (by simp; omega)
    exact pyNext_zipN_end (I.ok.hd hc) D hz hTI hTO h1 h2 p2.isList he fun h' tk hk => ⟨rfl, I.turnedL (t' := tk) (ch := [z, TI, TO, i1, i2]) (fun c o hb q =>
      hk c o (fun q' => hb (by simp [q'])) (fun q' => hb (by simp [q'])) (fun q' => hb (by simp [q'])) (fun q' => hb (by simp [q'])) q) hf⟩
  self := fun A i s Q E st h => wpAny_pyIter_zip st.1 h
def iZipN (K : PySem.W.Frag) (ta : TA) : TI := fun σ H R => ta σ H fun vs H1 => ∃ g b ys, vs = [.str g, .ref b] ∧ g.cps.all (· < 128) = true ∧ SqL K H1 b ys ∧ R (ItzN K g b) H1
theorem pi_zipN {X : Cx} {e e2 : Expr} {ta : TA} {p pos tpos : Pos} {elts : List Expr} {kk : Nat} (hg : Gl X "zip") (hm : X.mg "zip" = none) (ha : PA X [e, e2] ta)
    (hs : starEach [e, e2] X.env = (false, eval e X.env) :: starEach [e2] X.env := by rfl) (hpl : (backTo pos (starEach [e2] X.env)).any (·.1) = false := by rfl) :
    PI X (.Tuple elts kk tpos) (.Call (.Name "zip" p) [e, e2] [] pos) (iZipN X.K ta) := by
  refine ⟨fun pins s σ H R I h => ?_⟩
  refine Call_ (ld_blt I hg hm PyProof.Rows.boot_zip (PyProof.Rows.callWith_type1 (thn (ha.run pos pins s σ H _ I h) fun us s1 ⟨vs, H1, I1, r1, q1⟩ => ?_) hs hpl))
  obtain ⟨g, b, ys, ex, hasc, hqy, q⟩ := q1
  subst ex
  cases r1 with
  | cons r rr =>
    cases rr with
    | cons r' rr =>
      cases rr
      obtain ⟨t, rfl⟩ := r
      cases r'
      have fresh5 : ∀ c, c ∈ [s1.heap.objs.size + 4, s1.heap.objs.size + 2, s1.heap.objs.size + 3, s1.heap.objs.size, s1.heap.objs.size + 1] → FpOk X pins H1 c := fun c hcm => by
        have e' : c = s1.heap.objs.size + 4 ∨ c = s1.heap.objs.size + 2 ∨ c = s1.heap.objs.size + 3 ∨ c = s1.heap.objs.size ∨ c = s1.heap.objs.size + 1 := by simpa using hcm
        have hle : s1.heap.objs.size ≤ c := by
          rcases e' with z | z | z | z | z
          · rw [z]; exact Nat.le_add_right _ _
          · rw [z]; exact Nat.le_add_right _ _
          · rw [z]; exact Nat.le_add_right _ _
          · rw [z]; exact Nat.le_refl _
          · rw [z]; exact Nat.le_add_right _ _
        exact I1.fpOk hle (I1.hok.fresh hle)
      obtain ⟨its2, rv2, p2, _⟩ := I1.list hqy
      refine call_zipN hasc (show s1.heap.IsList b its2.toArray from p2.isList) fun h' hz hTI hTO h1 h2 hsz hk => wpAny_pyIter_zip hz ?_
      have I2 : Inv X pins σ H1 { s1 with heap := h' } := I1.kept (t' := s1.toks) hk
      exact ⟨s1.heap.objs.size + 4, [s1.heap.objs.size + 4, s1.heap.objs.size + 2, s1.heap.objs.size + 3, s1.heap.objs.size, s1.heap.objs.size + 1], _, _, H1, rfl, I2, turn_zipN (PySem.W.ktu_apart s1.heap.objs.size b b p2.lt p2.lt), ⟨hz, hTI, ⟨_, _, hTO⟩, h1, h2⟩, fresh5, q⟩
variable {X : Cx} {E : XK} {a b : Expr} {m : WA} {p pos : Pos}
/-- a text and an unchanged list -/
def zipT : List D → Option (Str × List D)
  | [.str g, .lst es] => if g.length ≤ sizeLine ∧ g.cps.all (· < 128) = true then some (g, es) else none
  | _ => none
def wiZipL (m : WA) : WI := fun e st X Q => m e st X fun as st1 => on (zipT as) fun p => Q (zipL (signs p.1) p.2) (fun _ => True) st1
theorem i_zipL {elts : List Expr} {kk : Nat} {tpos : Pos} (hg : Gl X "zip") (hm : X.mg "zip" = none) (h : PAw X E [a, b] 2 m) (hs : starEach [a, b] X.env = (false, eval a X.env) :: starEach [b] X.env := by rfl) (hpl : (backTo pos (starEach [b] X.env)).any (·.1) = false := by rfl) :
    PIw X E (.Tuple elts kk tpos) (.Call (.Name "zip" p) [a, b] [] pos) (wiZipL m) :=
  pi_imp (pi_zipN hg hm h hs hpl) fun σ H R ⟨B, e, st, Qd, Xd, S, pq, px, mm⟩ => ⟨B, e, st, _, Xd, S, fun as st1 vs H1 m1 l1 x1 k1 r1 => by
    obtain ⟨⟨g, es⟩, hd, q⟩ := on_iff.mp m1
    unfold zipT at hd
    split at hd
    · rename_i g' es'
      split at hd <;> cases hd
      rename_i hz
      cases r1 with
      | cons r1 r2 => cases r2 with
        | cons r2 r3 =>
          cases r3
          cases r1
          rename_i hok
          have ht : ∀ st, lsOf st (.lst es) = some es := fun _ => rfl
          obtain ⟨b, us, rfl, hs', r3', z'⟩ := ls_of k1 r2 (ht st1)
          have sl : (signs g).length = g.cps.size := by unfold signs; rw [List.length_map, Array.length_toList]
          refine ⟨g, b, us, rfl, hz.2, .inl hs', pq _ _ st1 _ H1 q (by rw [zipL_len]; exact Nat.le_trans (Nat.min_le_right _ _) z') x1 k1 fun i B' st2 H2 x2 k2 c hi => ?_⟩
          obtain ⟨b', us', eb, hs2', r4', _⟩ := ls_of k2 (r2.ext x2) (ht st2)
          cases eb
          refine ⟨fun e => ⟨us', .inl hs2', ?_⟩, fun d hd => ?_⟩
          · rw [zipL_len, sl] at e
            have l2 := r4'.length
            simp only at e l2
            omega
          · obtain ⟨d', e', h1, h2, rfl⟩ := zipL_get _ _ _ hd
            obtain ⟨v2, h5, h6⟩ := r4'.get h2
            have h1' := h1
            unfold signs at h1'
            rw [List.getElem?_map, Array.getElem?_toList] at h1'
            obtain ⟨c0, hc0, rfl⟩ := Option.map_eq_some_iff.mp h1'
            refine ⟨⟨us', c0, v2, .inl hs2', hc0, h5⟩, fun x H' y => ?_⟩
            obtain ⟨T, c1, y', rfl, hT, rfl, f1, f2⟩ := y
            have e1 := f1.symm.trans hc0
            have e2 := (f2 us' (.inl hs2')).symm.trans h5
            cases e1; cases e2
            exact pair_ok k2 hT (.str _ (okS_mem hok (Array.mem_def.mp (Array.mem_of_getElem? hc0)))) h6
    · (cases hd), px, mm⟩
@[simp] theorem wiZipL_ap {e : DL.Env} {st : Sto} {X : PoX} {QI : List D → (Sto → Prop) → Sto → Prop} : wiZipL m e st X QI = m e st X fun as st1 => on (zipT as) fun p => QI (zipL (signs p.1) p.2) (fun _ => True) st1 := id rfl
end
end DL
namespace DL
open PySem PySem.Spec PyProof.Rows L2
def kvS (tab : TabS) : List (L2.Key × V) := tab.map fun q => (Sum.inr q.1, V.str q.2)
theorem entsS_ok {prog : Program} {w : World} : ∀ {l : List DictEntry} {tab : TabS}, entsSB l tab = true → ∃ vs, L2.KV (kvS tab) vs ∧ PySem.Pairs (mixKind prog w) l vs ∧ vs.map (·.1) = tab.map fun q => (Sum.inr q.1 : L2.Key)
  | [], [], _ => ⟨[], .nil, .nil, rfl⟩
  | e :: es, (k, y) :: r, h => by
    unfold entsSB at h
    simp only [Bool.and_eq_true] at h
    obtain ⟨h1, h2⟩ := h
    obtain ⟨vs, a1, a2, a3⟩ := entsS_ok (prog := prog) (w := w) h2
    split at h1
    · rename_i x t z u ek ev
      simp only [Bool.and_eq_true, decide_eq_true_iff] at h1
      obtain ⟨rfl, rfl⟩ := h1
      refine ⟨(Sum.inr x, .str z u) :: vs, .cons ⟨rfl, ⟨_, rfl⟩⟩ a1, .cons ?_ ev a2, by rw [List.map_cons, a3]; rfl⟩
      rw [ek]
      show Value.isStrOf x (.str x t) = true
      exact (PySem.strKind_is prog w x t)
    · cases h1
theorem call_dictK {X : Cx} : CallR X (.type "dict") (fun xs H Q => ∃ (d : Addr) (es : Array DictEntry) (n : Nat) (tab : TabS), xs = [.ref d] ∧ KDict X.K X.w d es n ∧ entsSB es.toList tab = true ∧ (tab.map (·.1)).Nodup ∧ tab.length ≤ sizeLine ∧
    ∀ p, H p = none → Q (.ref p) (L2.upd H p (.dK (kvS tab)))) := by
  intro pins s σ H xs us Q I r q
  obtain ⟨a, es, n, tab, ex, D, he, nd, z, q⟩ := q
  subst ex
  obtain ⟨u, eu, rx⟩ := vals1 r
  subst eu
  cases rx
  obtain ⟨vs, rel, pr, hk⟩ := entsS_ok (prog := X.prog) (w := X.w) he
  have dd : s.heap.DictOf (mixKind X.prog X.w) a vs := ⟨_, es, n, I.kIn _ _ D.at_, ⟨rfl, rfl, rfl⟩, rfl, fun e he => by
    obtain ⟨x, t, e1, e2⟩ := D.lit.all e (Array.mem_toList_iff.mpr he)
    exact ⟨Sum.inr x, by rw [e1]; exact PySem.strKind_is X.prog X.w x t, e2⟩, pr, by
    rw [hk]
    have e0 : (tab.map fun q => (Sum.inr q.1 : L2.Key)) = (tab.map (·.1)).map Sum.inr := by rw [List.map_map]; rfl
    rw [e0]
    exact nd.map _ fun x y h e => h (Sum.inr.inj e)⟩
  have zz : (kvS tab).length ≤ sizeLine := by unfold kvS; rw [List.length_map]; exact z
  refine kt_call_dict D.low dd (by rw [← rel.length]; exact zz) fun h' d' hs => ?_
  have hm : (s.heap.objs.size == sysModules) = false := beq_eq_false_iff_ne.mpr (Nat.ne_of_gt I.big)
  exact ⟨.ref s.heap.objs.size, L2.upd H s.heap.objs.size (.dK (kvS tab)), I.laid (t' := s.toks) (fun b u e => (hs.2 b (Nat.ne_of_lt (Heap.lt_size e))).trans (Heap.get?_push_of_some _ e)) (Nat.le_refl _)
    (show ObjOk X.prog X.w _ _ _ (.dK (kvS tab)) from ⟨zz, hm, vs, rel, d'⟩), rfl, q _ (I.hok.fresh (Nat.le_refl _))⟩
def TabSOk (K : PySem.W.Frag) (w : World) (mg : Str → Option Value) (x : Str) (tab : TabS) : Prop :=
  ∃ a es n, mg x = some (.ref a) ∧ KDict K w a es n ∧ entsSB es.toList tab = true
theorem tabS_ok {w : World} {K : PySem.W.Frag} {mg : Str → Option Value} {x : Str} {tab : TabS} (hm : mg x = some (.ref (He.ga K x))) (hd : ∃ es n, KDict K w (He.ga K x) es n) (hb : tabSB x tab K = true) : TabSOk K w mg x tab := by
  obtain ⟨es, n, D⟩ := hd
  unfold tabSB at hb
  rw [D.at_] at hb
  exact ⟨_, es, n, hm, D, hb⟩
def dkS (tab : TabS) : List (L2.Key × D) := tab.map fun q => (Sum.inr q.1, D.str q.2)
/-- dict(NAME) -/
def wDictTab (tab : TabS) : WE := fun _ st _ Q => ∀ p, st p = none → Q (.ref p) (st.set p (.dk (dkS tab)))
@[simp] theorem wDictTab_ap {tab : TabS} {e : DL.Env} {st : Sto} {X : PoX} {Q : PoE} : wDictTab tab e st X Q = ∀ p, st p = none → Q (.ref p) (st.set p (.dk (dkS tab))) := id rfl
def tabSGood (tab : TabS) : Bool := decide (tab.map (·.1)).Nodup && (decide (tab.length ≤ 1000) && tab.all fun q => okS q.2)
section
variable {X : Cx} {E : XK} {pos p q : Pos} {x : Str} {tab : TabS}
theorem e_dictTab (h : TabSOk X.K X.w X.mg x tab) (gd : tabSGood tab = true) (fr : Frees X.mg) (hg' : Gl X "dict" := by rfl) (hg : Gl X x := by rfl) (hd : (x == ("__debug__" : Str)) = false := by decide)
    (he : starEach [.Name x q] X.env = (false, eval (.Name x q) X.env) :: starEach [] X.env := by rfl) : PEw X E (.Call (.Name "dict" p) [.Name x q] [] pos) (wDictTab tab) := by
  obtain ⟨d, es, n, h1, kd, h2⟩ := h
  unfold tabSGood at gd
  simp only [Bool.and_eq_true, decide_eq_true_iff, List.all_eq_true] at gd
  obtain ⟨nd, z, ok⟩ := gd
  refine pe_imp (pe_callTy call_dictK hg' fr.dict (by decide +kernel) (pa_cons (pe_glob (v := .ref d) hg h1 rfl hd) pa_nil he) (by decide) (by decide) he rfl) fun σ H Q ⟨B, e, st, Qd, Xd, S, pq, px, m⟩ => ?_
  refine ⟨d, es, n, tab, rfl, kd, h2, nd, by rw [sizeLine_eq]; omega, fun p hp => ?_⟩
  obtain ⟨k2, x2⟩ := S.sto.put (c := .dk (dkS tab)) (o := .dK (kvS tab)) hp ⟨by unfold dkS kvS; rw [List.map_map, List.map_map]; rfl, by
    have e1 : (dkS tab).map (·.2) = (tab.map (·.2)).map D.str := by unfold dkS; rw [List.map_map, List.map_map]; rfl
    have e2 : (kvS tab).map (·.2) = (tab.map (·.2)).map V.str := by unfold kvS; rw [List.map_map, List.map_map]; rfl
    rw [e1, e2]
    exact repL_strs _ fun y hy => by
      obtain ⟨w, hw, rfl⟩ := List.mem_map.mp hy
      exact ok w hw⟩
  exact pq _ _ _ _ (m p (S.sto.none_ hp)) x2 k2 (.ref p)
end
end DL
namespace DL
open PySem PySem.Spec PyProof.Rows L2
def F_need : WF := wDef 1 1 true (wIfS (wTNot (wTT (wVar 0))) (wRaise "NoText") wSkip)
def F_number_of : WF := wDef 2 1 true (wSeq (wDrop (wFn F_need (wCons (wAnd (wBin dNe (wVar 0) (wC (.str ""))) (wBin dEq (wComp (wiStr (wVar 0)) (.nm 1) (wTB (wBin dNotIn (wVar 1) (wC (.str "0123456789")))) (wVar 1) [1]) (wLst wNil))) wNil))) (wSeq (wDrop (wFn F_need (wCons (wOr (wBin dEq (wVar 0) (wC (.str "0"))) (wBin dNe (wBin ixD (wVar 0) (wC (.int 0))) (wC (.str "0")))) wNil))) (wRet (wCall cIntT (wCons (wVar 0) wNil)))))
/-- a part of a row -/
inductive Pt where
  | num (n : Nat) | nam (x : Str) | sid (l : List Nat)
def numT (n : Nat) : Str := Str.ofString (toString ((n : Nat) : Int))
def Pt.d : Pt → D
  | .num n => .int n
  | .nam x => .str x
  | .sid l => .tup (l.map fun (n : Nat) => .int n)
def comma : Str := Str.ofString ","
def blank : Str := Str.ofString " "
def Pt.t : Pt → Str
  | .num n => numT n
  | .nam x => x
  | .sid l => Txt.join comma (l.map numT)
/-- the text of a row -/
def rowT (ps : List Pt) : Str := Txt.join blank (ps.map Pt.t)
theorem numT_tl {n : Nat} : TL.tl (numT n) = TL.numL n := TL.tl_num n
theorem numT_free {n s : Nat} (h : s < 48 ∨ 57 < s) : s ∉ TL.tl (numT n) := by rw [numT_tl]; exact TL.numL_free h
theorem numT_len {n k : Nat} (hk : 0 < k) (h : n < 10 ^ k) : (numT n).length ≤ k := by
  rw [TL.len_tl, numT_tl]
  exact TL.numL_len hk h
theorem comma_tl : TL.tl comma = [44] := by decide +kernel
theorem blank_tl : TL.tl blank = [32] := by decide +kernel
theorem side_split {l : List Nat} (h : l ≠ []) : Txt.split (Txt.join comma (l.map numT)) comma = l.map numT :=
  TL.split_join comma_tl (by decide +kernel) (fun z => h (List.map_eq_nil_iff.mp z)) fun p hp => by
    obtain ⟨n, _, rfl⟩ := List.mem_map.mp hp
    exact numT_free (.inl (by decide))
theorem mem_joinL {S : List Nat} {c : Nat} : ∀ {ps : List (List Nat)}, c ∈ TL.joinL S ps → c ∈ S ∨ ∃ p ∈ ps, c ∈ p
  | [], h => nomatch h
  | [p], h => .inr ⟨p, List.mem_singleton.mpr rfl, h⟩
  | p :: q :: r, h => by
    have h : c ∈ p ++ (S ++ TL.joinL S (q :: r)) := h
    rcases List.mem_append.mp h with h | h
    · exact .inr ⟨p, List.mem_cons_self, h⟩
    rcases List.mem_append.mp h with h | h
    · exact .inl h
    rcases mem_joinL h with h | ⟨z, hz, hc⟩
    · exact .inl h
    · exact .inr ⟨z, List.mem_cons_of_mem _ hz, hc⟩
theorem join_tl {y : Str} {ys : List Str} : TL.tl (Txt.join y ys) = TL.joinL (TL.tl y) (ys.map TL.tl) := by rw [TL.join_eq, TL.tl_join]
def Pt.ok : Pt → Prop
  | .num n => n < 10 ^ 31
  | .nam x => nameOk x = true
  | .sid l => l ≠ [] ∧ l.length ≤ 7 ∧ ∀ n ∈ l, n < 10 ^ 31
theorem nameOk_low {x : Str} (h : nameOk x = true) : ∀ c ∈ TL.tl x, 97 ≤ c ∧ c ≤ 122 := by
  unfold nameOk at h
  simp only [Bool.and_eq_true, List.all_eq_true, decide_eq_true_eq] at h
  exact h.2
theorem nameOk_8 {x : Str} (h : nameOk x = true) : 1 ≤ x.length ∧ x.length ≤ 8 := by
  unfold nameOk at h
  simp only [Bool.and_eq_true, decide_eq_true_eq] at h
  exact h.1
/-- the signs of a part's text -/
theorem pt_free {p : Pt} (h : p.ok) {s : Nat} (h1 : s < 44 ∨ 122 < s) : s ∉ TL.tl p.t := by
  cases p with
  | num n => exact numT_free (by omega)
  | nam x =>
    intro hs
    have := nameOk_low h s hs
    omega
  | sid l =>
    intro hs
    have hs : s ∈ TL.tl (Txt.join comma (l.map numT)) := hs
    rw [join_tl, comma_tl] at hs
    rcases mem_joinL hs with h | ⟨p, hp, hc⟩
    · rw [List.mem_singleton] at h; omega
    · obtain ⟨y, hy, rfl⟩ := List.mem_map.mp hp
      obtain ⟨n, _, rfl⟩ := List.mem_map.mp hy
      exact numT_free (by omega) hc
theorem joinL_len {S : List Nat} : ∀ {ps : List (List Nat)} {k : Nat}, (∀ p ∈ ps, p.length ≤ k) → (TL.joinL S ps).length ≤ ps.length * (k + S.length)
  | [], _, _ => Nat.zero_le _
  | [p], k, h => by
    have := h p List.mem_cons_self
    show p.length ≤ 1 * (k + S.length)
    omega
  | p :: q :: r, k, h => by
    have h1 := h p List.mem_cons_self
    have ih := joinL_len (S := S) (ps := q :: r) fun z hz => h z (List.mem_cons_of_mem _ hz)
    show (p ++ (S ++ TL.joinL S (q :: r))).length ≤ _
    rw [List.length_append, List.length_append, List.length_cons (a := p), Nat.succ_mul]
    omega
theorem pt_len {p : Pt} (h : p.ok) : p.t.length ≤ 300 := by
  cases p with
  | num n => exact Nat.le_trans (numT_len (k := 31) (by omega) h) (by omega)
  | nam x => exact Nat.le_trans (nameOk_8 h).2 (by omega)
  | sid l =>
    show (Txt.join comma (l.map numT)).length ≤ 300
    rw [TL.len_tl, join_tl, comma_tl]
    have := joinL_len (S := [44]) (ps := (l.map numT).map TL.tl) (k := 31) fun p hp => by
      obtain ⟨y, hy, rfl⟩ := List.mem_map.mp hp
      obtain ⟨n, hn, rfl⟩ := List.mem_map.mp hy
      rw [← TL.len_tl]
      exact numT_len (by omega) (h.2.2 n hn)
    rw [List.length_map, List.length_map] at this
    have hl := h.2.1
    simp only [List.length_singleton] at this
    omega
theorem row_split {ps : List Pt} (hn : ps ≠ []) (h : ∀ p ∈ ps, p.ok) : Txt.split (rowT ps) blank = ps.map Pt.t :=
  TL.split_join blank_tl (by decide +kernel) (fun z => hn (List.map_eq_nil_iff.mp z)) fun y hy => by
    obtain ⟨p, hp, rfl⟩ := List.mem_map.mp hy
    exact pt_free (h p hp) (.inl (by decide))
section
variable {st : Sto} {X : PoX} {Q : PoE} {a : Addr}
theorem strD_num {n : Nat} (h : n < 10 ^ 31) : cStrD st [.int n] = some (.str (numT n)) := by
  have e : ((n : Int).natAbs).log2 < 1920 := by
    rw [Int.natAbs_natCast]
    by_cases h0 : n = 0
    · subst h0; decide
    · exact Nat.lt_of_lt_of_le ((Nat.log2_lt h0).mpr (Nat.lt_of_lt_of_le h (by decide : 10 ^ 31 ≤ 2 ^ 104))) (by decide)
  show (if (n : Int).natAbs.log2 < 1920 then some (D.str (Str.ofString (toString (n : Int)))) else none) = _
  rw [if_pos e]
  rfl
theorem sumLen_le {k : Nat} : ∀ {ys : List Str}, (∀ z ∈ ys, z.length ≤ k) → (ys.map (·.length)).sum ≤ ys.length * k
  | [], _ => Nat.zero_le _
  | y :: r, h => by
    have h1 := h y List.mem_cons_self
    have ih := sumLen_le (ys := r) fun z hz => h z (List.mem_cons_of_mem _ hz)
    rw [List.map_cons, List.sum_cons, List.length_cons, Nat.succ_mul]
    omega
theorem join_strs {y : Str} {ys : List Str} {k : Nat} (hy : y.length = 1) (h : ∀ z ∈ ys, z.length ≤ k) (hl : ys.length * (k + 1) ≤ 16777216) : mJoin st (.str y) [.lst (ys.map D.str)] = some (.str (Txt.join y ys), st) := by
  have hs := sumLen_le h
  rw [Nat.mul_succ] at hl
  unfold mJoin
  simp only
  rw [sqOf_lst, Option.bind_some, strsOf_map, Option.bind_some, hy, if_pos (by omega)]
theorem pts_len {ps : List Pt} (h : ∀ p ∈ ps, p.ok) : ∀ z ∈ ps.map Pt.t, z.length ≤ 300 := fun z hz => by
  obtain ⟨p, hp, rfl⟩ := List.mem_map.mp hz
  exact pt_len (h p hp)
theorem ap_need {b : Bool} (h1 : b = true → Q .non st) (h2 : b = false → X (Str.ofString "NoText") st) : F_need [.bl b] st X Q := by
  simp only [F_need, wDef_ap]
  refine ⟨rfl, ?_⟩
  cases b with
  | true =>
    simp
    exact h1 rfl
  | false =>
    simp
    exact h2 rfl
/-- a number as it is written -/
def numB (w : Str) : Bool := !decide (w = Str.ofString "") && ((TL.tl w).all (fun c => decide (c ∈ TL.tl (Str.ofString "0123456789"))) && (decide (w = Str.ofString "0") || match TL.tl w with | [] => false | c :: _ => !decide ((⟨#[c]⟩ : Str) = Str.ofString "0")))
theorem ap_number_of {w : Str} (hl : w.length ≤ 640) (h1 : ∀ n, numB w = true → intText? w = some n → Q (.int n) st) (h2 : numB w = false → X (Str.ofString "NoText") st) (hi : numB w = true → ∃ n, intText? w = some n) : F_number_of [.str w] st X Q := by
  have sz := sizeLine_eq
  have need : ∀ {b : Bool} {st : Sto} {X : PoX} {Q : PoE}, (b = true → Q .non st) → (b = false → X (Str.ofString "NoText") st) → F_need [.bl b] st X Q := fun h1 h2 => ap_need h1 h2
  have h4 : w.length ≤ sizeLine := by omega
  simp only [F_number_of, wDef_ap]
  generalize F_need = Fn at *
  refine ⟨rfl, ?_⟩
  rw [wSeq_ap]
  simp [-wSeq_ap]
  have e0 : st.keepOnly st = st := Sto.keepOnly_self st
  by_cases c0 : w = Str.ofString ""
  · rw [if_pos c0]
    have nb : numB w = false := by unfold numB; rw [decide_eq_true c0]; rfl
    refine need (fun z => ?_) (fun _ => by rw [e0]; exact h2 nb)
    rw [decide_eq_true c0] at z
    cases z
  rw [if_neg c0, if_pos h4, on_some]
  have hsg : signs w = (TL.tl w).map fun c => D.str ⟨#[c]⟩ := rfl
  rw [hsg]
  refine compL_imp (enc := fun c => D.str ⟨#[c]⟩) (fun c => [some (.str w), some (D.str ⟨#[c]⟩)]) (fun c => !decide (c ∈ TL.tl (Str.ofString "0123456789"))) (fun c => D.str ⟨#[c]⟩) ?_ ?_ ?_ trivial ?_
  · simp
  · intro c hc Q hq
    have h8 : dNotIn st (.str ⟨#[c]⟩) (.str (Str.ofString "0123456789")) = some (.bl (!decide (c ∈ TL.tl (Str.ofString "0123456789")))) := rfl
    simp [h8]
    simpa using hq
  · intro c hc _ Q hq
    simpa using hq
  have e9 : (((TL.tl w).filter fun c => !decide (c ∈ TL.tl (Str.ofString "0123456789"))).map fun c => D.str ⟨#[c]⟩).isEmpty = (TL.tl w).all fun c => decide (c ∈ TL.tl (Str.ofString "0123456789")) := by
    rw [Bool.eq_iff_iff, List.isEmpty_iff, List.map_eq_nil_iff, List.filter_eq_nil_iff, List.all_eq_true]
    exact forall_congr' fun c => imp_congr_right fun hc => by simp
  rw [List.nil_append, dEq_lnil (plL_map fun _ _ => pl_str), on_some, e9]
  have nd : decide (w = Str.ofString "") = false := decide_eq_false c0
  have hnum : numB w = ((TL.tl w).all (fun c => decide (c ∈ TL.tl (Str.ofString "0123456789"))) && (decide (w = Str.ofString "0") || match TL.tl w with | [] => false | c :: _ => !decide ((⟨#[c]⟩ : Str) = Str.ofString "0"))) := by
    unfold numB
    rw [nd]
    rfl
  rw [hnum] at h1 h2 hi
  generalize hA : (TL.tl w).all (fun c => decide (c ∈ TL.tl (Str.ofString "0123456789"))) = A at *
  refine need (fun z => ?_) (fun z => by rw [e0]; exact h2 (by rw [z]; rfl))
  subst z
  rw [Bool.true_and] at h1 h2 hi
  rw [wSeq_ap]
  simp [-wSeq_ap]
  have fin : ∀ n, intText? w = some n → cIntT st [.str w] = some (.int n) := fun n hn => by
    unfold cIntT
    simp only
    rw [hn]
    simp only
    rw [if_pos hl]
  by_cases c1 : w = Str.ofString "0"
  · rw [if_pos c1]
    rw [decide_eq_true c1, Bool.true_or] at h1 hi
    obtain ⟨n, hn⟩ := hi rfl
    refine need (fun _ => ?_) (fun z => by rw [decide_eq_true c1] at z; cases z)
    rw [fin n hn, on_some, e0]
    exact h1 n rfl hn
  · rw [if_neg c1]
    rw [decide_eq_false c1, Bool.false_or] at h1 h2 hi
    cases ht : TL.tl w with
    | nil => exact absurd (TL.ext_tl (show TL.tl w = TL.tl (Str.ofString "") by rw [ht]; decide +kernel)) c0
    | cons c r =>
      rw [ht] at h1 h2 hi
      have ex : ixD st (.str w) (.int 0) = some (.str ⟨#[c]⟩) := by
        unfold ixD
        simp only
        rw [if_pos h4]
        have ew : w.cps.toList = c :: r := ht
        rw [ew, atI_0]
        rfl
      rw [ex, on_some, dNe_str, on_some]
      refine need (fun z => ?_) (fun z => by rw [e0]; exact h2 z)
      obtain ⟨n, hn⟩ := hi z
      rw [fin n hn, on_some, e0]
      exact h1 n z hn
theorem numL_head : ∀ (k n : Nat), n ≤ k → 1 ≤ n → ∃ c r, TL.numL n = c :: r ∧ c ≠ 48
  | 0, n, h, h1 => by omega
  | k + 1, n, h, h1 => by
    by_cases h10 : n < 10
    · exact ⟨48 + n, [], TL.numL_lt h10, by omega⟩
    · obtain ⟨c, r, e, hc⟩ := numL_head k (n / 10) (by omega) (by omega)
      exact ⟨c, r ++ [48 + n % 10], by rw [TL.numL_step (by omega), e]; rfl, hc⟩
theorem num_B {n : Nat} : numB (numT n) = true := by
  have hne : ¬ numT n = Str.ofString "" := fun z => TL.numL_ne n (by rw [← numT_tl, z]; decide +kernel)
  have hall : ((TL.tl (numT n)).all fun c => decide (c ∈ TL.tl (Str.ofString "0123456789"))) = true := by
    rw [numT_tl, List.all_eq_true]
    intro c hc
    have hd := TL.numL_digits n c hc
    have e : TL.tl (Str.ofString "0123456789") = [48, 49, 50, 51, 52, 53, 54, 55, 56, 57] := by decide +kernel
    rw [e, decide_eq_true_iff]
    simp only [List.mem_cons, List.not_mem_nil, or_false]
    omega
  unfold numB
  rw [decide_eq_false hne, hall]
  by_cases h0 : n = 0
  · subst h0
    have e : numT 0 = Str.ofString "0" := by decide +kernel
    rw [decide_eq_true e]
    rfl
  · obtain ⟨c, r, e, hc⟩ := numL_head n n (Nat.le_refl _) (by omega)
    rw [numT_tl, e]
    have hc0 : ¬ (⟨#[c]⟩ : Str) = Str.ofString "0" := fun z => by
      have z2 := congrArg TL.tl z
      have e2 : TL.tl (Str.ofString "0") = [48] := by decide +kernel
      rw [e2] at z2
      have z3 : [c] = [48] := z2
      injection z3 with z4
      exact hc z4
    simp [hc0]
theorem num_int {n : Nat} (h : n < 10 ^ 31) : intText? (numT n) = some (n : Int) := TL.int_num (Nat.le_trans (TL.numL_len (k := 31) (by omega) h) (by omega))
/-- a part of a form -/
def fits (m : Int) : Str → Pt → Prop
  | c, .nam x => c = Str.ofString "n" ∧ nameOk x = true
  | c, .sid l => c = Str.ofString "s" ∧ sideOk m (l.map fun (n : Nat) => (n : Int)) ∧ l ≠ [] ∧ l.length ≤ 7 ∧ ∀ n ∈ l, n < 10 ^ 31
  | c, .num n => n < 10 ^ 31 ∧ (c = Str.ofString "p" ∨ (c = Str.ofString "k" ∧ 0 < n) ∨ (c = Str.ofString "h" ∧ (n : Int) < m))
theorem fits_ok {m : Int} {c : Str} {p : Pt} (h : fits m c p) : p.ok := by
  cases p with
  | num n => exact h.1
  | nam x => exact h.2
  | sid l => exact h.2.2
/-- the signs of a form fit the parts -/
def fitsAll (m : Int) (form : Str) (ps : List Pt) : Prop := form.length = ps.length ∧ ∀ q ∈ ((TL.tl form).map fun c => (⟨#[c]⟩ : Str)).zip ps, fits m q.1 q.2
/-- a row of a table -/
def RowIn (m : Int) (tab : TabS) (w : Str) (ps : List Pt) : Prop := nameOk w = true ∧ ps.length ≤ 5 ∧ ∃ form, getT tab w = some form ∧ form.cps.all (· < 128) = true ∧ fitsAll m form ps
abbrev Rw2 := Str × List Pt
def Rw2.d (r : Rw2) : D := .tup (.str r.1 :: r.2.map Pt.d)
def Rw2.t (r : Rw2) : Str := rowT (.nam r.1 :: r.2)
theorem rowIn_ok {m : Int} {tab : TabS} {w : Str} {ps : List Pt} (h : RowIn m tab w ps) : ∀ p ∈ Pt.nam w :: ps, p.ok := fun p hp => by
  obtain ⟨hw, hl, form, hg, ha, hf⟩ := h
  rcases List.mem_cons.mp hp with rfl | hp
  · exact hw
  · obtain ⟨i, hi, rfl⟩ := List.mem_iff_getElem.mp hp
    have hlen : i < (((TL.tl form).map fun c => (⟨#[c]⟩ : Str)).zip ps).length := by
      rw [List.length_zip, List.length_map, ← TL.len_tl, hf.1]; omega
    have := hf.2 _ (List.getElem_mem hlen)
    rw [List.getElem_zip] at this
    exact fits_ok this
theorem keep_ex {st st' : Sto} (h : ∀ c, st c ≠ none → st' c = st c) : st'.keepOnly st = st := by
  funext c
  unfold Sto.keepOnly
  split
  · rename_i hs
    exact h c (fun z => by rw [z] at hs; cases hs)
  · rename_i hs
    cases e : st c with
    | none => rfl
    | some x => rw [e] at hs; exact absurd rfl hs
def F__law_shown : WF := wDef 4 1 true (wSeq (wSet 1 (wLstR wNil)) (wSeq (wFor (wiSeq (wVar 0)) (.nm 2) (wIfS (wTT (wCall cIsi (wCons (wVar 2) (wCons (wC (.ty "tuple")) wNil)))) (wDrop (wMeth "list" mAppend (wVar 1) (wCons (wMeth "str" mJoin (wC (.str ",")) (wCons (wComp (wiSeq (wVar 2)) (.nm 3) wYes (wCall cStrD (wCons (wVar 3) wNil)) [3]) wNil)) wNil))) (wDrop (wMeth "list" mAppend (wVar 1) (wCons (wCall cStrD (wCons (wVar 2) wNil)) wNil)))) [2]) (wRet (wMeth "str" mJoin (wC (.str " ")) (wCons (wVar 1) wNil)))))
theorem on_of {α : Type} {o : Option α} {x : α} {P : α → Prop} (e : o = some x) (h : P x) : on o P := by rw [e, on_some]; exact h
theorem ap_law_shown {ps : List Pt} (h : ∀ p ∈ ps, p.ok) (hl : ps.length ≤ 10) (hq : Q (.str (rowT ps)) st) : F__law_shown [.tup (ps.map Pt.d)] st X Q := by
  have sz := sizeLine_eq
  simp only [F__law_shown, wDef_ap]
  refine ⟨rfl, ?_⟩
  rw [wSeq_ap]
  simp [-wSeq_ap]
  intro q hq0
  rw [wSeq_ap]
  simp [-wSeq_ap]
  refine wForL_typed (enc := Pt.d) (fun rest e' st' => ∃ done : List Pt, ps = done ++ rest ∧ st' = st.set q (.lst ((done.map Pt.t).map D.str)) ∧ e' = [some (.tup (ps.map Pt.d)), some (.ref q), none, none]) ?_ ?_ ?_ _ _ _ ⟨[], rfl, rfl, rfl⟩
  · intros; simp
  · rintro e' st' ⟨done, hd, rfl, rfl⟩
    rw [List.append_nil] at hd
    subst hd
    simp [-List.map_map]
    have ej : mJoin (st.set q (.lst ((ps.map Pt.t).map D.str))) (.str (Str.ofString " ")) [.ref q] = some (.str (rowT ps), st.set q (.lst ((ps.map Pt.t).map D.str))) := by
      have e := join_strs (st := st.set q (.lst ((ps.map Pt.t).map D.str))) (y := Str.ofString " ") (ys := ps.map Pt.t) (k := 300) (by decide +kernel) (pts_len h) (by rw [List.length_map]; omega)
      refine Eq.trans ?_ e
      unfold mJoin
      simp only
      rw [sqOf_ref Sto.set_same, sqOf_lst]
    rw [ej, on_some, Sto.keepOnly_new hq0, Sto.keepOnly_self]
    exact hq
  · rintro p rest e' st' N ⟨done, hd, rfl, rfl⟩ hN
    have hp : p.ok := h p (by rw [hd]; simp)
    have hdl : done.length < 10 := by have := congrArg List.length hd; simp at this; omega
    have fin : ∀ {e2 : DL.Env}, e2 = [some (.tup (ps.map Pt.d)), some (.ref q), none, none] → N e2 (st.set q (.lst ((done.map Pt.t).map D.str ++ [.str p.t]))) := fun he => hN _ _ ⟨done ++ [p], by rw [hd]; simp, by simp, he⟩
    have ty : tyNm (st.set q (.lst ((done.map Pt.t).map D.str))) (.ref q) = some "list" := ls_ty Sto.set_same
    have ap : mAppend (st.set q (.lst ((done.map Pt.t).map D.str))) (.ref q) [.str p.t] = some (.non, st.set q (.lst ((done.map Pt.t).map D.str ++ [.str p.t]))) := by
      rw [ls_app Sto.set_same (by rw [List.length_map, List.length_map]; omega), Sto.set_set]
    cases p with
    | num n =>
      simp [-List.map_map, Pt.d, tyNm, ty, strD_num hp]
      refine on_of ap (fin rfl)
    | nam x =>
      simp [-List.map_map, Pt.d, tyNm, ty, cStrD]
      refine on_of ap (fin rfl)
    | sid l =>
      simp [-List.map_map, Pt.d, tyNm, ty]
      refine compL_imp (enc := fun n : Nat => D.int n) (fun n => [some (.tup (ps.map Pt.d)), some (.ref q), some (.tup (l.map fun (n : Nat) => D.int n)), some (.int n)]) (fun _ => true) (fun n => .str (numT n)) ?_ ?_ ?_ trivial ?_
      · intro n _
        simp
      · intro n _ Q hq
        simpa using hq
      · intro n hn _ Q hq
        simp [-List.map_map, strD_num (hp.2.2 n hn)]
        exact hq
      · have e : ((l.filter fun _ => true).map fun n => D.str (numT n)) = (l.map numT).map D.str := by
          rw [List.filter_eq_self.mpr fun _ _ => rfl, List.map_map]
          rfl
        rw [List.nil_append, e, join_strs (k := 31) (by decide +kernel) (fun z hz => ?_) (by rw [List.length_map]; have := hp.2.1; omega), on_some]
        · exact on_of ap (fin rfl)
        · obtain ⟨n, hn, rfl⟩ := List.mem_map.mp hz
          exact numT_len (by omega) (hp.2.2 n hn)
end
end DL
namespace DL
open PySem PySem.Spec PyProof.Rows L2
def F__law_nameT : WF := wDef 3 1 true (wSeq (wSet 1 (wC (.str "abcdefghijklmnopqrstuvwxyz"))) (wSeq (wIfS (wTB (wBin dEq (wFn F__law_pull (wCons (wVar 0) (wCons (wC (.int 4)) wNil))) (wC (.int 0)))) (wRet (wBin ixD (wLst (wCons (wC (.str "ab")) (wCons (wC (.str "round")) (wCons (wC (.str "heal")) (wCons (wC (.str "ask")) (wCons (wC (.str "a")) (wCons (wC (.str "zzzzzzzz")) (wCons (wC (.str "joe")) (wCons (wC (.str "no")) wNil))))))))) (wFn F__law_pull (wCons (wVar 0) (wCons (wC (.int 8)) wNil))))) wSkip) (wRet (wMeth "str" mJoin (wC (.str "")) (wCons (wComp (wiRange (wCons (wBin dAdd (wC (.int 1)) (wFn F__law_pull (wCons (wVar 0) (wCons (wC (.int 8)) wNil)))) wNil)) (.nm 2) wYes (wBin ixD (wVar 1) (wFn F__law_pull (wCons (wVar 0) (wCons (wC (.int 26)) wNil)))) [2]) wNil)))))
def F__law_numberT : WF := wDef 3 2 true (wSeq (wSet 2 (wBin dAdd (wBin dAdd (wBin dMul (wFn F__law_pull (wCons (wVar 0) (wCons (wC (.int 100000000)) wNil))) (wC (.int 100000000000000000000))) (wBin dMul (wFn F__law_pull (wCons (wVar 0) (wCons (wC (.int 10000000000)) wNil))) (wC (.int 10000000000)))) (wFn F__law_pull (wCons (wVar 0) (wCons (wC (.int 10000000000)) wNil))))) (wRet (wBin dAdd (wVar 1) (wBin ixD (wLst (wCons (wFn F__law_pull (wCons (wVar 0) (wCons (wC (.int 10)) wNil))) (wCons (wFn F__law_pull (wCons (wVar 0) (wCons (wC (.int 10)) wNil))) (wCons (wFn F__law_pull (wCons (wVar 0) (wCons (wC (.int 300)) wNil))) (wCons (wBin dSub (wVar 2) (wVar 1)) wNil))))) (wFn F__law_pull (wCons (wVar 0) (wCons (wC (.int 4)) wNil)))))))
def F__law_any_deed : WF := wDef 7 2 true (wSeq (wSet 2 (wFn F__law_pull (wCons (wVar 0) (wCons (wVar 1) wNil)))) (wSeq (wSet 3 (wLst (wCons (wC (.str "claim")) (wCons (wC (.str "renew")) (wCons (wC (.str "back")) (wCons (wC (.str "carry")) (wCons (wC (.str "copy")) (wCons (wC (.str "lose")) (wCons (wC (.str "fall")) (wCons (wC (.str "rise")) (wCons (wC (.str "part")) (wCons (wC (.str "heal")) (wCons (wC (.str "round")) wNil))))))))))))) (wSeq (wSet 4 (wBin ixD (wVar 3) (wFn F__law_pull (wCons (wVar 0) (wCons (wC (.int 11)) wNil))))) (wSeq (wIfS (wTB (wBin dEq (wVar 4) (wC (.str "claim")))) (wRet (wTup (wCons (wVar 4) (wCons (wVar 2) (wCons (wFn F__law_nameT (wCons (wVar 0) wNil)) (wCons (wFn F__law_nameT (wCons (wVar 0) wNil)) wNil)))))) wSkip) (wSeq (wIfS (wTB (wBin dIn (wVar 4) (wTup (wCons (wC (.str "renew")) (wCons (wC (.str "back")) wNil))))) (wRet (wTup (wCons (wVar 4) (wCons (wVar 2) (wCons (wFn F__law_nameT (wCons (wVar 0) wNil)) wNil))))) wSkip) (wSeq (wIfS (wTB (wBin dIn (wVar 4) (wTup (wCons (wC (.str "carry")) (wCons (wC (.str "copy")) (wCons (wC (.str "lose")) wNil)))))) (wRet (wTup (wCons (wVar 4) (wCons (wFn F__law_numberT (wCons (wVar 0) (wCons (wC (.int 0)) wNil))) wNil)))) wSkip) (wSeq (wIfS (wTB (wBin dIn (wVar 4) (wTup (wCons (wC (.str "fall")) (wCons (wC (.str "rise")) wNil))))) (wRet (wTup (wCons (wVar 4) (wCons (wVar 2) wNil)))) wSkip) (wSeq (wSet 5 (wCall cTuple (wCons (wComp (wiRange (wCons (wVar 1) wNil)) (.nm 6) (wTB (wBin dEq (wFn F__law_pull (wCons (wVar 0) (wCons (wC (.int 2)) wNil))) (wC (.int 0)))) (wVar 6) [6]) wNil))) (wSeq (wIfS (wTAnd (wTB (wBin dEq (wVar 4) (wC (.str "part")))) (wTB (wChain dLt dLt (wC (.int 0)) (wCall cLen (wCons (wVar 5) wNil)) (wVar 1)))) (wRet (wTup (wCons (wVar 4) (wCons (wVar 5) wNil)))) wSkip) (wRet (wBin ixD (wLst (wCons (wTup (wCons (wC (.str "heal")) wNil)) (wCons (wTup (wCons (wC (.str "round")) wNil)) wNil))) (wFn F__law_pull (wCons (wVar 0) (wCons (wC (.int 2)) wNil))))))))))))))
def F__law_any_entry : WF := wDef 7 2 true (wSeq (wSet 2 (wFn F__law_pull (wCons (wVar 0) (wCons (wVar 1) wNil)))) (wSeq (wSet 3 (wFn F__law_nameT (wCons (wVar 0) wNil))) (wSeq (wSet 4 (wCall cMax (wCons (wC (.int 1)) (wCons (wFn F__law_numberT (wCons (wVar 0) (wCons (wC (.int 1)) wNil))) wNil)))) (wSeq (wSet 5 (wCall cMax (wCons (wC (.int 1)) (wCons (wFn F__law_numberT (wCons (wVar 0) (wCons (wC (.int 1)) wNil))) wNil)))) (wSeq (wSet 6 (wLstR (wCons (wTup (wCons (wC (.str "ask")) (wCons (wVar 3) (wCons (wVar 4) (wCons (wFn F__law_nameT (wCons (wVar 0) wNil)) (wCons (wVar 5) wNil)))))) (wCons (wTup (wCons (wC (.str "got")) (wCons (wVar 3) (wCons (wVar 4) (wCons (wVar 2) (wCons (wVar 5) wNil)))))) wNil)))) (wSeq (wSet 6 (wAddR (wVar 6) (wLst (wCons (wTup (wCons (wC (.str "no")) (wCons (wVar 3) (wCons (wVar 4) (wCons (wVar 2) wNil))))) (wCons (wTup (wCons (wC (.str "back")) (wCons (wVar 3) (wCons (wVar 4) wNil)))) (wCons (wTup (wCons (wC (.str "word")) (wCons (wVar 3) (wCons (wVar 2) (wCons (wVar 4) (wCons (wVar 5) wNil)))))) wNil)))))) (wSeq (wDrop (wMeth "list" mAppend (wVar 6) (wCons (wTup (wCons (wC (.str "free")) (wCons (wVar 3) (wCons (wVar 2) (wCons (wVar 4) wNil))))) wNil))) (wRet (wBin ixD (wVar 6) (wFn F__law_pull (wCons (wVar 0) (wCons (wC (.int 6)) wNil))))))))))))
theorem nmT : ∀ x ∈ [Str.ofString "ab", Str.ofString "round", Str.ofString "heal", Str.ofString "ask", Str.ofString "a", Str.ofString "zzzzzzzz", Str.ofString "joe", Str.ofString "no"], nameOk x = true := by decide +kernel
section
variable {st : Sto} {X : PoX} {Q : PoE} {a : Addr} {r : List D} {b : Nat} {m c k : Int}
theorem ap_nameT (hr : st a = some (.lst r)) (ok : PotOk b r) (hb : b ≤ 10 ^ 14) (h : ∀ x r', nameOk x = true → PotOk (b + 10) r' → Q (.str x) (st.set a (.lst r'))) : F__law_nameT [.ref a] st X Q := by
  have sm : (st a).isSome = true := by rw [hr]; rfl
  simp only [F__law_nameT, wDef_ap]
  refine ⟨rfl, ?_⟩
  rw [wSeq_ap]
  simp [-wSeq_ap]
  rw [wSeq_ap]
  simp [-wSeq_ap]
  refine ap_pull hr ok (by omega) (by omega) (by omega) (fun n1 r1 a1 b1 ok1 => ?_)
  by_cases c1 : n1 = 0
  · simp [c1]
    refine ap_pull Sto.set_same ok1 (by omega) (by omega) (by omega) (fun n2 r2 a2 b2 ok2 => ?_)
    obtain ⟨x, hx, e⟩ := atI_str (L := [Str.ofString "ab", Str.ofString "round", Str.ofString "heal", Str.ofString "ask", Str.ofString "a", Str.ofString "zzzzzzzz", Str.ofString "joe", Str.ofString "no"]) a2 (by simp; omega)
    simp only [List.map_cons, List.map_nil] at e
    rw [ixD_lst, e, on_some, Sto.set_set, Sto.keepOnly_set sm, Sto.keepOnly_self]
    exact h x r2 (nmT x hx) (ok2.mono (by omega))
  · simp [c1]
    refine ap_pull Sto.set_same ok1 (by omega) (by omega) (by omega) (fun n r1' n0 n1 ok1' => ?_)
    simp
    generalize hmany : 1 + n = many
    rw [rangeOf_1 (by omega) (by omega), on_some, rangeL_map]
    have hrl : (rangeI 0 many).length = many.toNat := by rw [rangeI_len]; simp
    refine compL_inv (enc := D.int) (fun acc rest st' => ∃ (cs : List Nat) (r' : List D), acc = (cs.map fun c => D.str (txt [c])) ∧ st' = st.set a (.lst r') ∧ PotOk (b + 2 + cs.length) r' ∧ (∀ c ∈ cs, low c) ∧ cs.length + rest.length = many.toNat) (fun _ _ _ _ => trivial) ?_ ?_ _ _ _ ⟨[], r1', rfl, rfl, ok1', fun _ h => (by cases h), by simpa using hrl⟩
    · rintro acc st' ⟨cs, r', rfl, rfl, ok', hc, hl⟩
      simp at hl
      rw [mJoin_txt (by omega), on_some]
      simp [Sto.keepOnly_set sm]
      exact h _ r' (nameOk_txt (by omega) (by omega) hc) (ok'.mono (by omega))
    · rintro y rest acc st' N ⟨cs, r', rfl, rfl, ok', hc, hl⟩ hN
      simp at hl
      simp
      refine ap_pull Sto.set_same ok' (by omega) (by omega) (by omega) (fun n2 r2 a2 b2 ok2 => ?_)
      rw [Sto.set_set]
      obtain ⟨c1, hc1, hc2⟩ := letter_at (st := st.set a (.lst r2)) a2 b2
      rw [hc2, on_some]
      refine hN _ _ ⟨cs ++ [c1], r2, by simp, rfl, ok2.mono (by simp; omega), ?_, by simp; omega⟩
      intro c' hc'
      rcases List.mem_append.mp hc' with h | h
      · exact hc c' h
      · rw [List.mem_singleton.mp h]; exact hc1
theorem ap_numberT (hr : st a = some (.lst r)) (ok : PotOk b r) (hb : b ≤ 10 ^ 14) (hk : k = 0 ∨ k = 1) (h : ∀ n r', 0 ≤ n → n < 10 ^ 29 → PotOk (b + 7) r' → Q (.int n) (st.set a (.lst r'))) : F__law_numberT [.ref a, .int k] st X Q := by
  have sm : (st a).isSome = true := by rw [hr]; rfl
  simp only [F__law_numberT, wDef_ap]
  refine ⟨rfl, ?_⟩
  rw [wSeq_ap]
  simp [-wSeq_ap]
  refine ap_pull hr ok (by omega) (by omega) (by omega) (fun n1 r1 a1 b1 ok1 => ?_)
  rw [dMul_int ⟨by omega, by omega⟩ ⟨by omega, by omega⟩, on_some]
  refine ap_pull Sto.set_same ok1 (by omega) (by omega) (by omega) (fun n2 r2 a2 b2 ok2 => ?_)
  rw [dMul_int ⟨by omega, by omega⟩ ⟨by omega, by omega⟩, on_some]
  simp only [dAdd_int, on_some]
  refine ap_pull Sto.set_same ok2 (by omega) (by omega) (by omega) (fun n3 r3 a3 b3 ok3 => ?_)
  simp only [dAdd_int, on_some]
  refine ap_pull Sto.set_same ok3 (by omega) (by omega) (by omega) (fun n4 r4 a4 b4 ok4 => ?_)
  refine ap_pull Sto.set_same ok4 (by omega) (by omega) (by omega) (fun n5 r5 a5 b5 ok5 => ?_)
  refine ap_pull Sto.set_same ok5 (by omega) (by omega) (by omega) (fun n6 r6 a6 b6 ok6 => ?_)
  simp only [dSub_int, on_some]
  refine ap_pull Sto.set_same ok6 (by omega) (by omega) (by omega) (fun n7 r7 a7 b7 ok7 => ?_)
  obtain ⟨z, hz, ez⟩ := four_at (a := D.int n4) (b := .int n5) (c := .int n6) (d := .int (n1 * 100000000000000000000 + n2 * 10000000000 + n3 - k)) a7 b7
  rw [ixD_lst, ez, on_some]
  have fin : ∀ v : Int, 0 ≤ k + v → k + v < 10 ^ 29 → Q (.int (k + v)) ((st.set a (.lst r7))) := fun v h0 h1 => h _ r7 h0 h1 ok7
  simp only [Sto.set_set, Sto.keepOnly_set sm, Sto.keepOnly_self]
  rcases hz with rfl | rfl | rfl | rfl
  · simp
    exact fin _ (by omega) (by omega)
  · simp
    exact fin _ (by omega) (by omega)
  · simp
    exact fin _ (by omega) (by omega)
  · simp only [dAdd_int, on_some]
    exact fin _ (by omega) (by omega)
/-- a form by its signs -/
theorem fitsAll_of {form : Str} {cs : List Str} {ps : List Pt} (e : ((TL.tl form).map fun c => (⟨#[c]⟩ : Str)) = cs) (hl : form.length = ps.length) (h : ∀ q ∈ cs.zip ps, fits m q.1 q.2) : fitsAll m form ps := ⟨hl, by rw [e]; exact h⟩
theorem rowIn_of {tab : TabS} {w form : Str} {cs : List Str} {ps : List Pt} (hw : nameOk w = true) (hl : ps.length ≤ 5) (hg : getT tab w = some form) (ha : form.cps.all (· < 128) = true) (e : ((TL.tl form).map fun c => (⟨#[c]⟩ : Str)) = cs) (hf : cs.length = ps.length) (h : ∀ q ∈ cs.zip ps, fits m q.1 q.2) : RowIn m tab w ps := ⟨hw, hl, form, hg, ha, fitsAll_of e (by rw [TL.len_tl, ← hf, ← e, List.length_map]) h⟩
theorem fits_n {x : Str} (h : nameOk x = true) : fits m (Str.ofString "n") (.nam x) := ⟨rfl, h⟩
theorem fits_k {n : Nat} (h0 : 0 < n) (h1 : n < 10 ^ 31) : fits m (Str.ofString "k") (.num n) := ⟨h1, .inr (.inl ⟨rfl, h0⟩)⟩
theorem fits_p {n : Nat} (h1 : n < 10 ^ 31) : fits m (Str.ofString "p") (.num n) := ⟨h1, .inl rfl⟩
theorem fits_h {n : Nat} (h : (n : Int) < m) (hm : m ≤ 60) : fits m (Str.ofString "h") (.num n) := ⟨by omega, .inr (.inr ⟨rfl, h⟩)⟩
theorem fz_nil : ∀ q ∈ List.zip ([] : List Str) ([] : List Pt), fits m q.1 q.2 := fun q h => by cases h
theorem fz_cons {c : Str} {p : Pt} {cs : List Str} {ps : List Pt} (h : fits m c p) (t : ∀ q ∈ cs.zip ps, fits m q.1 q.2) : ∀ q ∈ (c :: cs).zip (p :: ps), fits m q.1 q.2 := fun q hq => by
  rw [List.zip_cons_cons] at hq
  rcases List.mem_cons.mp hq with rfl | hq
  · exact h
  · exact t q hq
theorem row_hnn {w x y : Str} {h : Nat} (hw : nameOk w = true) (hg : getT T_dtexts w = some (Str.ofString "hnn")) (hh : (h : Int) < m) (hm : m ≤ 60) (hx : nameOk x = true) (hy : nameOk y = true) : RowIn m T_dtexts w [.num h, .nam x, .nam y] :=
  rowIn_of (cs := [Str.ofString "h", Str.ofString "n", Str.ofString "n"]) hw (by simp) hg (by decide +kernel) (by decide +kernel) rfl (fz_cons (fits_h hh hm) (fz_cons (fits_n hx) (fz_cons (fits_n hy) fz_nil)))
theorem row_hn {w x : Str} {h : Nat} (hw : nameOk w = true) (hg : getT T_dtexts w = some (Str.ofString "hn")) (hh : (h : Int) < m) (hm : m ≤ 60) (hx : nameOk x = true) : RowIn m T_dtexts w [.num h, .nam x] :=
  rowIn_of (cs := [Str.ofString "h", Str.ofString "n"]) hw (by simp) hg (by decide +kernel) (by decide +kernel) rfl (fz_cons (fits_h hh hm) (fz_cons (fits_n hx) fz_nil))
theorem row_h {w : Str} {h : Nat} (hw : nameOk w = true) (hg : getT T_dtexts w = some (Str.ofString "h")) (hh : (h : Int) < m) (hm : m ≤ 60) : RowIn m T_dtexts w [.num h] :=
  rowIn_of (cs := [Str.ofString "h"]) hw (by simp) hg (by decide +kernel) (by decide +kernel) rfl (fz_cons (fits_h hh hm) fz_nil)
theorem row_p {w : Str} {h : Nat} (hw : nameOk w = true) (hg : getT T_dtexts w = some (Str.ofString "p")) (hh : h < 10 ^ 31) : RowIn m T_dtexts w [.num h] :=
  rowIn_of (cs := [Str.ofString "p"]) hw (by simp) hg (by decide +kernel) (by decide +kernel) rfl (fz_cons (fits_p hh) fz_nil)
theorem row_0 {w : Str} (hw : nameOk w = true) (hg : getT T_dtexts w = some (Str.ofString "")) : RowIn m T_dtexts w [] :=
  rowIn_of (cs := []) hw (by simp) hg (by decide +kernel) (by decide +kernel) rfl fz_nil
theorem side_nat {s : List Int} (h : ∀ x ∈ s, houseOk m x) : (s.map Int.toNat).map (fun (n : Nat) => (n : Int)) = s := by
  rw [List.map_map]
  refine (List.map_congr_left fun x hx => ?_).trans (List.map_id s)
  have := (h x hx).1
  show ((x.toNat : Nat) : Int) = x
  omega
theorem row_side {s : List Int} (hs : sideOk m s) (hm : m ≤ 7) : RowIn m T_dtexts (Str.ofString "part") [.sid (s.map Int.toNat)] := by
  refine rowIn_of (form := Str.ofString "s") (cs := [Str.ofString "s"]) (by decide +kernel) (by simp) (by decide +kernel) (by decide +kernel) (by decide +kernel) rfl (fz_cons ⟨rfl, ?_, ?_, ?_, ?_⟩ fz_nil)
  · rw [side_nat hs.1]; exact hs
  · intro z
    have := hs.2.1
    rw [List.map_eq_nil_iff] at z
    rw [z] at this
    cases this
  · rw [List.length_map]
    have := hs.2.2.1
    omega
  · intro n hn
    obtain ⟨x, hx, rfl⟩ := List.mem_map.mp hn
    have := hs.1 x hx
    unfold houseOk at this
    have : (x.toNat : Int) < 7 := by omega
    omega
theorem side_d {s : List Int} (h : ∀ x ∈ s, houseOk m x) : (Pt.sid (s.map Int.toNat)).d = .tup (s.map .int) := by
  have e := congrArg (List.map D.int) (side_nat h)
  rw [List.map_map] at e
  show D.tup ((s.map Int.toNat).map fun (n : Nat) => D.int n) = _
  rw [← e]
  rfl
theorem ap_any_deed (hr : st a = some (.lst r)) (ok : PotOk b r) (hb : b ≤ 10 ^ 13) (m1 : 1 ≤ m) (m7 : m ≤ 7) (h : ∀ w ps r', RowIn m T_dtexts w ps → PotOk (b + 30) r' → Q (Rw2.d (w, ps)) (st.set a (.lst r'))) : F__law_any_deed [.ref a, .int m] st X Q := by
  have sm : (st a).isSome = true := by rw [hr]; rfl
  have fin : ∀ {w ps r'}, RowIn m T_dtexts w ps → PotOk (b + 30) r' → Q (Rw2.d (w, ps)) ((st.set a (.lst r')).keepOnly st) := fun h1 h2 => by
    rw [Sto.keepOnly_set sm, Sto.keepOnly_self]
    exact h _ _ _ h1 h2
  clear h
  simp only [F__law_any_deed, wDef_ap]
  refine ⟨rfl, ?_⟩
  rw [wSeq_ap]
  simp [-wSeq_ap]
  refine ap_pull hr ok (by omega) (by omega) (by omega) (fun hs r1 a1 b1 ok1 => ?_)
  obtain ⟨hs, rfl⟩ := Int.eq_ofNat_of_zero_le a1
  rw [wSeq_ap]
  simp [-wSeq_ap]
  rw [wSeq_ap]
  simp [-wSeq_ap]
  refine ap_pull Sto.set_same ok1 (by omega) (by omega) (by omega) (fun wi r2 a2 b2 ok2 => ?_)
  obtain ⟨w, hw, ew⟩ := atI_str (L := [Str.ofString "claim", Str.ofString "renew", Str.ofString "back", Str.ofString "carry", Str.ofString "copy", Str.ofString "lose", Str.ofString "fall", Str.ofString "rise", Str.ofString "part", Str.ofString "heal", Str.ofString "round"]) a2 (by simp; omega)
  simp only [List.map_cons, List.map_nil] at ew
  rw [ixD_lst, ew, on_some, Sto.set_set]
  have side : ∀ {QL : List D → Sto → Prop} {w3 w4 : Option D}, (∀ (s : List Int) r', s.Pairwise (· < ·) → (∀ x ∈ s, houseOk m x) → (s.length : Int) ≤ m → PotOk (b + 9) r' → QL (s.map .int) (st.set a (.lst r'))) →
      wCompL (.nm 6) (wTB (wBin dEq (wFn F__law_pull (wCons (wVar 0) (wCons (wC (.int 2)) wNil))) (wC (.int 0)))) (wVar 6) (fun _ => True) [some (.ref a), some (.int m), some (.int hs), w3, w4, none, none] QL ((rangeI 0 m).map D.int) [] (st.set a (.lst r2)) := by
    intro QL w3 w4 hQ
    have hrl : (rangeI 0 m).length = m.toNat := by rw [rangeI_len]; simp
    refine compL_inv (enc := D.int) (fun acc rest st' => ∃ (s : List Int) (r' : List D) (j : Nat), acc = s.map .int ∧ PotOk (b + 2 + j) r' ∧ st' = st.set a (.lst r') ∧ (s ++ rest).Sublist (rangeI 0 m) ∧ j + rest.length ≤ 7) (fun _ _ _ _ => trivial) ?_ ?_ _ _ _
      ⟨[], r2, 0, rfl, ok2, rfl, (by rw [List.nil_append]; exact List.Sublist.refl _), (by omega)⟩
    · rintro acc st' ⟨s, r', j, rfl, ok', rfl, hs, hj⟩
      rw [List.append_nil] at hs
      refine hQ s r' (rangeI_lt.sublist hs) (fun x hx => mem_rangeI.mp (hs.subset hx)) ?_ (ok'.mono (by simp at hj; omega))
      have := hs.length_le
      omega
    · rintro y rest acc st' N ⟨s, r', j, rfl, ok', rfl, hs, hj⟩ hN
      simp at hj
      simp
      refine ap_pull Sto.set_same ok' (by omega) (by omega) (by omega) (fun z r2 hz0 hz1 ok2 => ?_)
      simp
      by_cases hz : z = 0
      · simp [hz]
        refine hN _ _ ⟨s ++ [y], r2, j + 1, by simp, ok2, rfl, by simpa using hs, by omega⟩
      · simp [hz]
        refine hN _ _ ⟨s, r2, j + 1, rfl, ok2, rfl, ?_, by omega⟩
        exact ((List.Sublist.refl s).append (List.sublist_cons_self y rest)).trans hs
  simp only [List.mem_cons, List.not_mem_nil, or_false] at hw
  rcases hw with rfl | hw
  · rw [wSeq_ap]
    simp [-wSeq_ap, ofString_inj]
    refine ap_nameT Sto.set_same ok2 (by omega) (fun x r3 hx ok3 => ?_)
    refine ap_nameT Sto.set_same ok3 (by omega) (fun y r4 hy ok4 => ?_)
    simp only [Sto.set_set]
    exact fin (row_hnn (by decide +kernel) (by decide +kernel) b1 (by omega) hx hy) (ok4.mono (by omega))
  rw [wSeq_ap]
  have e1 : ¬ w = Str.ofString "claim" := by rcases hw with rfl | rfl | rfl | rfl | rfl | rfl | rfl | rfl | rfl | rfl <;> decide +kernel
  simp [-wSeq_ap, e1]
  rw [wSeq_ap]
  simp [-wSeq_ap]
  by_cases c2 : w = Str.ofString "renew" ∨ w = Str.ofString "back"
  · rw [if_pos c2]
    refine ap_nameT Sto.set_same ok2 (by omega) (fun x r3 hx ok3 => ?_)
    simp only [Sto.set_set]
    refine fin (ps := [.num hs, .nam x]) ?_ (ok3.mono (by omega))
    rcases c2 with rfl | rfl
    · exact row_hn (by decide +kernel) (by decide +kernel) b1 (by omega) hx
    · exact row_hn (by decide +kernel) (by decide +kernel) b1 (by omega) hx
  rw [if_neg c2, wSeq_ap]
  simp [-wSeq_ap]
  by_cases c3 : w = Str.ofString "carry" ∨ w = Str.ofString "copy" ∨ w = Str.ofString "lose"
  · rw [if_pos c3]
    refine ap_numberT Sto.set_same ok2 (by omega) (.inl rfl) (fun x r3 h0 h1 ok3 => ?_)
    obtain ⟨x, rfl⟩ := Int.eq_ofNat_of_zero_le h0
    simp only [Sto.set_set]
    refine fin (ps := [.num x]) ?_ (ok3.mono (by omega))
    have hx : x < 10 ^ 31 := by omega
    rcases c3 with rfl | rfl | rfl
    · exact row_p (by decide +kernel) (by decide +kernel) hx
    · exact row_p (by decide +kernel) (by decide +kernel) hx
    · exact row_p (by decide +kernel) (by decide +kernel) hx
  rw [if_neg c3, wSeq_ap]
  simp [-wSeq_ap]
  by_cases c4 : w = Str.ofString "fall" ∨ w = Str.ofString "rise"
  · rw [if_pos c4]
    refine fin (ps := [.num hs]) ?_ (ok2.mono (by omega))
    rcases c4 with rfl | rfl
    · exact row_h (by decide +kernel) (by decide +kernel) b1 (by omega)
    · exact row_h (by decide +kernel) (by decide +kernel) b1 (by omega)
  rw [if_neg c4, wSeq_ap]
  simp [-wSeq_ap]
  rw [rangeOf_1 (by omega) (by omega), on_some, rangeL_map]
  refine side fun s r3 s1 s2 s3 ok3 => ?_
  rw [wSeq_ap]
  simp [-wSeq_ap]
  have last : ∀ {w3 w4 w5 : Option D}, (wRet (wBin ixD (wLst (wCons (wTup (wCons (wC (.str "heal")) wNil)) (wCons (wTup (wCons (wC (.str "round")) wNil)) wNil))) (wFn F__law_pull (wCons (wVar 0) (wCons (wC (.int 2)) wNil))))) ({ nx := fun _ st' => Q .non (st'.keepOnly st), rt := fun d st' => Q d (st'.keepOnly st), ex := fun x st' => X x (st'.keepOnly st) } : WEnds) [some (.ref a), some (.int m), some (.int hs), w3, w4, w5, none] (st.set a (.lst r3)) := by
    intro w3 w4 w5
    simp
    refine ap_pull Sto.set_same ok3 (by omega) (by omega) (by omega) (fun z r4 hz0 hz1 ok4 => ?_)
    obtain ⟨y, hy, ey⟩ := two_at (a := D.tup [.str (Str.ofString "heal")]) (b := .tup [.str (Str.ofString "round")]) hz0 hz1
    rw [ixD_lst, ey, on_some, Sto.set_set]
    rcases hy with rfl | rfl
    · exact fin (w := Str.ofString "heal") (ps := []) (row_0 (by decide +kernel) (by decide +kernel)) (ok4.mono (by omega))
    · exact fin (w := Str.ofString "round") (ps := []) (row_0 (by decide +kernel) (by decide +kernel)) (ok4.mono (by omega))
  simp only [wRet_ap, wBin_ap, wLst_ap, wCons_ap, wTup_ap, wC_ap, wNil_ap, wFn_ap, wVar_ap, slot_z, on_some] at last
  by_cases c5 : w = Str.ofString "part"
  · rw [if_pos c5]
    by_cases c6 : 0 < s.length
    · simp [c6]
      by_cases c7 : (s.length : Int) < m
      · simp [c7]
        have hso : sideOk m s := ⟨s2, c6, c7, s1⟩
        have := fin (row_side hso m7) (ok3.mono (by omega))
        unfold Rw2.d at this
        rw [List.map_cons, List.map_nil, side_d s2] at this
        rw [c5]
        exact this
      · simp [c7]
        exact last (w3 := none) (w4 := none) (w5 := none)
    · simp [c6]
      exact last (w3 := none) (w4 := none) (w5 := none)
  · rw [if_neg c5]
    exact last (w3 := none) (w4 := none) (w5 := none)
theorem atI_pick {α : Type} {f : α → D} {L : List α} {i : Int} (h0 : 0 ≤ i) (h1 : i < L.length) : ∃ x ∈ L, atI (L.map f) i = some (f x) := by
  have h2 : i.toNat < L.length := by omega
  refine ⟨L[i.toNat], List.getElem_mem h2, ?_⟩
  have e : atI (L.map f) i = (L[i.toNat]?).map f := by
    rw [← List.getElem?_map, ← atI_N, show ((i.toNat : Nat) : Int) = i by omega]
  rw [e, List.getElem?_eq_getElem h2]; rfl
theorem set_none {p : Addr} {c : Cell} (h : st.set a c p = none) : p ≠ a ∧ st p = none := by
  have hpa : p ≠ a := fun z => by rw [z, Sto.set_same] at h; cases h
  exact ⟨hpa, by rw [Sto.set_ne hpa] at h; exact h⟩
theorem ent_rows {x y : Str} {h n u : Nat} (hx : nameOk x = true) (hy : nameOk y = true) (hh : (h : Int) < m) (hm : m ≤ 60) (n0 : 0 < n) (n1 : n < 10 ^ 31) (u0 : 0 < u) (u1 : u < 10 ^ 31) :
    ∀ z ∈ ([(Str.ofString "ask", [.nam x, .num n, .nam y, .num u]), (Str.ofString "got", [.nam x, .num n, .num h, .num u]), (Str.ofString "no", [.nam x, .num n, .num h]), (Str.ofString "back", [.nam x, .num n]), (Str.ofString "word", [.nam x, .num h, .num n, .num u]), (Str.ofString "free", [.nam x, .num h, .num n])] : List Rw2), RowIn m T_etexts z.1 z.2 := by
  have kx := fits_n (m := m) hx
  have ky := fits_n (m := m) hy
  have kn := fits_k (m := m) n0 n1
  have ku := fits_k (m := m) u0 u1
  have kh := fits_h hh hm
  intro z hz
  simp only [List.mem_cons, List.not_mem_nil, or_false] at hz
  rcases hz with rfl | rfl | rfl | rfl | rfl | rfl
  · exact rowIn_of (w := Str.ofString "ask") (form := Str.ofString "nknk") (cs := [Str.ofString "n", Str.ofString "k", Str.ofString "n", Str.ofString "k"]) (by decide +kernel) (by simp) (by decide +kernel) (by decide +kernel) (by decide +kernel) rfl (fz_cons kx (fz_cons kn (fz_cons ky (fz_cons ku fz_nil))))
  · exact rowIn_of (w := Str.ofString "got") (form := Str.ofString "nkhk") (cs := [Str.ofString "n", Str.ofString "k", Str.ofString "h", Str.ofString "k"]) (by decide +kernel) (by simp) (by decide +kernel) (by decide +kernel) (by decide +kernel) rfl (fz_cons kx (fz_cons kn (fz_cons kh (fz_cons ku fz_nil))))
  · exact rowIn_of (w := Str.ofString "no") (form := Str.ofString "nkh") (cs := [Str.ofString "n", Str.ofString "k", Str.ofString "h"]) (by decide +kernel) (by simp) (by decide +kernel) (by decide +kernel) (by decide +kernel) rfl (fz_cons kx (fz_cons kn (fz_cons kh fz_nil)))
  · exact rowIn_of (w := Str.ofString "back") (form := Str.ofString "nk") (cs := [Str.ofString "n", Str.ofString "k"]) (by decide +kernel) (by simp) (by decide +kernel) (by decide +kernel) (by decide +kernel) rfl (fz_cons kx (fz_cons kn fz_nil))
  · exact rowIn_of (w := Str.ofString "word") (form := Str.ofString "nhkk") (cs := [Str.ofString "n", Str.ofString "h", Str.ofString "k", Str.ofString "k"]) (by decide +kernel) (by simp) (by decide +kernel) (by decide +kernel) (by decide +kernel) rfl (fz_cons kx (fz_cons kh (fz_cons kn (fz_cons ku fz_nil))))
  · exact rowIn_of (w := Str.ofString "free") (form := Str.ofString "nhk") (cs := [Str.ofString "n", Str.ofString "h", Str.ofString "k"]) (by decide +kernel) (by simp) (by decide +kernel) (by decide +kernel) (by decide +kernel) rfl (fz_cons kx (fz_cons kh (fz_cons kn fz_nil)))
theorem max_nat {i : Int} (h0 : 0 ≤ i) (h1 : i < 10 ^ 29) : ∃ n : Nat, (if i > 1 then i else 1) = (n : Int) ∧ 0 < n ∧ n < 10 ^ 31 := by
  obtain ⟨n, rfl⟩ := Int.eq_ofNat_of_zero_le h0
  by_cases h : (n : Int) > 1
  · rw [if_pos h]
    exact ⟨n, rfl, by omega, by omega⟩
  · rw [if_neg h]
    exact ⟨1, rfl, by omega, by omega⟩
theorem ap_any_entry (hr : st a = some (.lst r)) (ok : PotOk b r) (hb : b ≤ 10 ^ 13) (m1 : 1 ≤ m) (m7 : m ≤ 7) (h : ∀ w ps r', RowIn m T_etexts w ps → PotOk (b + 60) r' → Q (Rw2.d (w, ps)) (st.set a (.lst r'))) : F__law_any_entry [.ref a, .int m] st X Q := by
  have sz := sizeLine_eq
  have sm : (st a).isSome = true := by rw [hr]; rfl
  simp only [F__law_any_entry, wDef_ap]
  refine ⟨rfl, ?_⟩
  rw [wSeq_ap]
  simp [-wSeq_ap]
  refine ap_pull hr ok (by omega) (by omega) (by omega) (fun hs r1 a1 b1 ok1 => ?_)
  obtain ⟨hs, rfl⟩ := Int.eq_ofNat_of_zero_le a1
  rw [wSeq_ap]
  simp [-wSeq_ap]
  refine ap_nameT Sto.set_same ok1 (by omega) (fun x r2 hx ok2 => ?_)
  rw [wSeq_ap]
  simp [-wSeq_ap]
  refine ap_numberT Sto.set_same ok2 (by omega) (.inr rfl) (fun n r3 a3 b3 ok3 => ?_)
  rw [cMax_int, on_some]
  obtain ⟨n, en, n0, n1⟩ := max_nat a3 b3
  rw [en, wSeq_ap]
  simp [-wSeq_ap]
  refine ap_numberT Sto.set_same ok3 (by omega) (.inr rfl) (fun u r4 a4 b4 ok4 => ?_)
  rw [cMax_int, on_some]
  obtain ⟨u, eu, u0, u1⟩ := max_nat a4 b4
  rw [eu, wSeq_ap]
  simp [-wSeq_ap]
  refine ap_nameT Sto.set_same ok4 (by omega) (fun y r5 hy ok5 => ?_)
  simp only [Sto.set_set]
  have rows := ent_rows (h := hs) hx hy b1 (by omega) n0 n1 u0 u1
  intro p hp
  obtain ⟨hpa, hp⟩ := set_none hp
  rw [wSeq_ap]
  simp [-wSeq_ap]
  rw [if_pos (by omega), on_some]
  intro q hq
  obtain ⟨hqp, hq⟩ := set_none hq
  obtain ⟨hqa, hq⟩ := set_none hq
  rw [wSeq_ap]
  simp [-wSeq_ap]
  refine ⟨ls_ty Sto.set_same, ?_⟩
  rw [ls_app Sto.set_same (by simp; omega), on_some]
  dsimp only
  rw [Sto.set_set]
  have eL : ([.tup [.str (Str.ofString "ask"), .str x, .int n, .str y, .int u], .tup [.str (Str.ofString "got"), .str x, .int n, .int hs, .int u], .tup [.str (Str.ofString "no"), .str x, .int n, .int hs], .tup [.str (Str.ofString "back"), .str x, .int n], .tup [.str (Str.ofString "word"), .str x, .int hs, .int n, .int u]] ++ [.tup [.str (Str.ofString "free"), .str x, .int hs, .int n]] : List D) =
    ([(Str.ofString "ask", [.nam x, .num n, .nam y, .num u]), (Str.ofString "got", [.nam x, .num n, .num hs, .num u]), (Str.ofString "no", [.nam x, .num n, .num hs]), (Str.ofString "back", [.nam x, .num n]), (Str.ofString "word", [.nam x, .num hs, .num n, .num u]), (Str.ofString "free", [.nam x, .num hs, .num n])] : List Rw2).map Rw2.d := rfl
  have hlen : ([(Str.ofString "ask", [.nam x, .num n, .nam y, .num u]), (Str.ofString "got", [.nam x, .num n, .num hs, .num u]), (Str.ofString "no", [.nam x, .num n, .num hs]), (Str.ofString "back", [.nam x, .num n]), (Str.ofString "word", [.nam x, .num hs, .num n, .num u]), (Str.ofString "free", [.nam x, .num hs, .num n])] : List Rw2).length = 6 := rfl
  rw [eL]
  generalize ([(Str.ofString "ask", [.nam x, .num n, .nam y, .num u]), (Str.ofString "got", [.nam x, .num n, .num hs, .num u]), (Str.ofString "no", [.nam x, .num n, .num hs]), (Str.ofString "back", [.nam x, .num n]), (Str.ofString "word", [.nam x, .num hs, .num n, .num u]), (Str.ofString "free", [.nam x, .num hs, .num n])] : List Rw2) = L at *
  refine ap_pull (by rw [Sto.set_ne (Ne.symm hqa), Sto.set_ne (Ne.symm hpa), Sto.set_same]) ok5 (by omega) (by omega) (by omega) (fun i r6 a6 b6 ok6 => ?_)
  obtain ⟨z, hz, ez⟩ := atI_pick (f := Rw2.d) (L := L) a6 (by omega)
  rw [ixD_ref (ds := L.map Rw2.d) (by rw [Sto.set_ne hqa, Sto.set_same]), ez, on_some, Sto.keepOnly_set sm, Sto.keepOnly_new hq, Sto.keepOnly_new hp, Sto.keepOnly_set sm, Sto.set_set, Sto.keepOnly_self]
  exact h z.1 z.2 r6 (rows z hz) (ok6.mono (by omega))
end
end DL
namespace DL
open PySem PySem.Spec PyProof.Rows L2
end DL
namespace DL
open PySem PySem.Spec PyProof.Rows L2
section
variable {st : Sto} {X : PoX} {Q : PoE} {a : Addr} {r : List D} {b n : Nat} {m c k : Int} {w : Wo}
def En.row : En → Rw2
  | .ask n k p u => (Str.ofString "ask", [.nam n, .num k.toNat, .nam p, .num u.toNat])
  | .got n k h u => (Str.ofString "got", [.nam n, .num k.toNat, .num h.toNat, .num u.toNat])
  | .no n k h => (Str.ofString "no", [.nam n, .num k.toNat, .num h.toNat])
  | .back n k => (Str.ofString "back", [.nam n, .num k.toNat])
  | .word n h k u => (Str.ofString "word", [.nam n, .num h.toNat, .num k.toNat, .num u.toNat])
  | .free n h k => (Str.ofString "free", [.nam n, .num h.toNat, .num k.toNat])
def De.row : De → Rw2
  | .claim h n p => (Str.ofString "claim", [.num h.toNat, .nam n, .nam p])
  | .renew h n => (Str.ofString "renew", [.num h.toNat, .nam n])
  | .back h n => (Str.ofString "back", [.num h.toNat, .nam n])
  | .carry k => (Str.ofString "carry", [.num k.toNat])
  | .copy k => (Str.ofString "copy", [.num k.toNat])
  | .lose k => (Str.ofString "lose", [.num k.toNat])
  | .fall h => (Str.ofString "fall", [.num h.toNat])
  | .rise h => (Str.ofString "rise", [.num h.toNat])
  | .part s => (Str.ofString "part", [.sid (s.map Int.toNat)])
  | .heal => (Str.ofString "heal", [])
  | .round => (Str.ofString "round", [])
theorem numT_inj {i j : Nat} (hi : i < 10 ^ 31) (hj : j < 10 ^ 31) (e : numT i = numT j) : i = j := by
  have h1 := num_int hi
  rw [e, num_int hj] at h1
  injection h1 with h1
  omega
theorem nums_inj : ∀ {l l' : List Nat}, (∀ n ∈ l, n < 10 ^ 31) → (∀ n ∈ l', n < 10 ^ 31) → l.map numT = l'.map numT → l = l'
  | [], [], _, _, _ => rfl
  | [], _ :: _, _, _, h => by simp at h
  | _ :: _, [], _, _, h => by simp at h
  | i :: l, j :: l', h1, h2, h => by
    rw [List.map_cons, List.map_cons] at h
    injection h with e1 e2
    rw [numT_inj (h1 i List.mem_cons_self) (h2 j List.mem_cons_self) e1, nums_inj (fun n hn => h1 n (List.mem_cons_of_mem _ hn)) (fun n hn => h2 n (List.mem_cons_of_mem _ hn)) e2]
theorem fits_inj {c : Str} {p p' : Pt} (h : fits m c p) (h' : fits m c p') (e : p.t = p'.t) : p = p' := by
  have n1 : ¬ Str.ofString "n" = Str.ofString "s" := by decide +kernel
  have n2 : ¬ Str.ofString "n" = Str.ofString "p" := by decide +kernel
  have n3 : ¬ Str.ofString "n" = Str.ofString "k" := by decide +kernel
  have n4 : ¬ Str.ofString "n" = Str.ofString "h" := by decide +kernel
  have s2 : ¬ Str.ofString "s" = Str.ofString "p" := by decide +kernel
  have s3 : ¬ Str.ofString "s" = Str.ofString "k" := by decide +kernel
  have s4 : ¬ Str.ofString "s" = Str.ofString "h" := by decide +kernel
  cases p with
  | nam x =>
    cases p' with
    | nam y => exact congrArg Pt.nam e
    | sid l => exact absurd (h.1.symm.trans h'.1) n1
    | num i => rcases h'.2 with z | z | z <;> first | exact absurd (h.1.symm.trans z) n2 | exact absurd (h.1.symm.trans z.1) n3 | exact absurd (h.1.symm.trans z.1) n4
  | sid l =>
    cases p' with
    | nam y => exact absurd (h'.1.symm.trans h.1) n1
    | sid l' =>
      have e : Txt.join comma (l.map numT) = Txt.join comma (l'.map numT) := e
      have h1 := side_split h.2.2.1
      rw [e, side_split h'.2.2.1] at h1
      rw [nums_inj h.2.2.2.2 h'.2.2.2.2 h1.symm]
    | num i => rcases h'.2 with z | z | z <;> first | exact absurd (h.1.symm.trans z) s2 | exact absurd (h.1.symm.trans z.1) s3 | exact absurd (h.1.symm.trans z.1) s4
  | num i =>
    cases p' with
    | nam y => rcases h.2 with z | z | z <;> first | exact absurd (h'.1.symm.trans z) n2 | exact absurd (h'.1.symm.trans z.1) n3 | exact absurd (h'.1.symm.trans z.1) n4
    | sid l => rcases h.2 with z | z | z <;> first | exact absurd (h'.1.symm.trans z) s2 | exact absurd (h'.1.symm.trans z.1) s3 | exact absurd (h'.1.symm.trans z.1) s4
    | num j => exact congrArg Pt.num (numT_inj h.1 h'.1 e)
theorem fitsL_inj : ∀ {cs : List Str} {ps ps' : List Pt}, cs.length = ps.length → cs.length = ps'.length → (∀ q ∈ cs.zip ps, fits m q.1 q.2) → (∀ q ∈ cs.zip ps', fits m q.1 q.2) → ps.map Pt.t = ps'.map Pt.t → ps = ps'
  | _, [], [], _, _, _, _, _ => rfl
  | _, [], _ :: _, _, _, _, _, h => by simp at h
  | _, _ :: _, [], _, _, _, _, h => by simp at h
  | [], _ :: _, _ :: _, h, _, _, _, _ => by simp at h
  | c :: cs, p :: ps, p' :: ps', l1, l2, f1, f2, h => by
    rw [List.map_cons, List.map_cons] at h
    injection h with e1 e2
    rw [List.zip_cons_cons] at f1 f2
    have e3 : p = p' := fits_inj (f1 (c, p) List.mem_cons_self) (f2 (c, p') List.mem_cons_self) e1
    rw [e3, fitsL_inj (by simpa using l1) (by simpa using l2) (fun q hq => f1 q (List.mem_cons_of_mem _ hq)) (fun q hq => f2 q (List.mem_cons_of_mem _ hq)) e2]
theorem row_inj {tab : TabS} {r r' : Rw2} (h : RowIn m tab r.1 r.2) (h' : RowIn m tab r'.1 r'.2) (e : r.t = r'.t) : r = r' := by
  have h1 := row_split (ps := .nam r.1 :: r.2) (by simp) (rowIn_ok h)
  have h2 := row_split (ps := .nam r'.1 :: r'.2) (by simp) (rowIn_ok h')
  have e : rowT (.nam r.1 :: r.2) = rowT (.nam r'.1 :: r'.2) := e
  rw [e, h2] at h1
  rw [List.map_cons, List.map_cons] at h1
  injection h1 with e1 e2
  have e1 : r'.1 = r.1 := e1
  obtain ⟨_, _, form, hg, _, hf⟩ := h
  obtain ⟨_, _, form', hg', _, hf'⟩ := h'
  rw [e1, hg] at hg'
  cases hg'
  have e3 : r.2 = r'.2 := fitsL_inj (cs := (TL.tl form).map fun c => (⟨#[c]⟩ : Str)) (by rw [List.length_map, ← TL.len_tl]; exact hf.1) (by rw [List.length_map, ← TL.len_tl]; exact hf'.1) hf.2 hf'.2 e2.symm
  cases r
  cases r'
  simp only at e1 e3
  rw [e1, e3]
theorem rows_inj {tab : TabS} : ∀ {rs rs' : List Rw2}, (∀ r ∈ rs, RowIn m tab r.1 r.2) → (∀ r ∈ rs', RowIn m tab r.1 r.2) → rs.map Rw2.t = rs'.map Rw2.t → rs = rs'
  | [], [], _, _, _ => rfl
  | [], _ :: _, _, _, h => by simp at h
  | _ :: _, [], _, _, h => by simp at h
  | i :: l, j :: l', h1, h2, h => by
    rw [List.map_cons, List.map_cons] at h
    injection h with e1 e2
    rw [row_inj (h1 i List.mem_cons_self) (h2 j List.mem_cons_self) e1, rows_inj (fun n hn => h1 n (List.mem_cons_of_mem _ hn)) (fun n hn => h2 n (List.mem_cons_of_mem _ hn)) e2]
end
end DL
namespace DL
open PySem PySem.Spec PyProof.Rows L2
section
variable {w w' : Wo} {n : Nat} {h o k u : Int} {x p : Str} {es fs : List En} {m : Int}
def NfOk (w : Wo) : Prop := ∀ es ∈ w.logs, (∀ x k o, En.no x k o ∈ es → k ≤ maxAsk es) ∧ ∀ x h k, En.free x h k ∈ es → ∃ u, En.word x h k u ∈ es
/-- what is known of a run's world, beside WOk -/
structure RunN (n : Nat) (w : Wo) : Prop where
  ok : WOk n w
  safe : Safe w
  num : ∀ h, houseOk w.m h → NumOk (w.log h)
  nf : NfOk w
  now : w.now ≤ n
  term : w.term ≤ 9
theorem RunN.mono (R : RunN n w) : RunN (n + 1) w := ⟨R.ok.mono, R.safe, R.num, R.nf, by have := R.now; omega, R.term⟩
end
/-- things of texts, whole numbers and tuples of them -/
inductive Smp : Nat → D → Prop
  | str {n x} : Smp n (.str x)
  | int {n i} : Smp n (.int i)
  | tup {n ds} : (∀ d ∈ ds, Smp n d) → Smp (n + 1) (.tup ds)
  | lst {n ds} : (∀ d ∈ ds, Smp n d) → Smp (n + 1) (.lst ds)
theorem smpL_py {n : Nat} (ih : ∀ {d : D}, Smp n d → ∃ p, toPy d = some p ∧ p.depth ≤ n + 1 ∧ ∀ {n' : Nat} {d' : D} {p' : PyData}, Smp n' d' → toPy d' = some p' → (PyData.eqv p p' = true ↔ d = d')) :
    ∀ {ds : List D}, (∀ d ∈ ds, Smp n d) → ∃ ps, toPyL ds = some ps ∧ PyData.depthAll ps ≤ n + 1 ∧ ∀ {n' : Nat} {ds' : List D} {ps' : List PyData}, (∀ d ∈ ds', Smp n' d) → toPyL ds' = some ps' → (PyData.eqvAll ps ps' = true ↔ ds = ds')
  | [], _ => ⟨[], rfl, by unfold PyData.depthAll; omega, fun {n' ds' ps'} h e => by
    cases ds' with
    | nil => cases e; simp [PyData.eqvAll]
    | cons d ds' =>
      rw [toPyL] at e
      split at e
      · cases e
        simp [PyData.eqvAll]
      · cases e⟩
  | d :: ds, h => by
    obtain ⟨p, h1, h2, h3⟩ := ih (h d List.mem_cons_self)
    obtain ⟨ps, h4, h5, h6⟩ := smpL_py ih (ds := ds) fun z hz => h z (List.mem_cons_of_mem _ hz)
    refine ⟨p :: ps, by rw [toPyL, h1, h4], by rw [PyData.depthAll]; omega, fun {n' ds' ps'} h' e => ?_⟩
    cases ds' with
    | nil => cases e; simp [PyData.eqvAll]
    | cons d' ds' =>
      rw [toPyL] at e
      split at e
      · rename_i p' qs e1 e2
        cases e
        rw [PyData.eqvAll, Bool.and_eq_true, h3 (h' d' List.mem_cons_self) e1, h6 (fun z hz => h' z (List.mem_cons_of_mem _ hz)) e2]
        simp
      · cases e
theorem smp_py : ∀ (n : Nat) {d : D}, Smp n d → ∃ p, toPy d = some p ∧ p.depth ≤ n + 1 ∧ ∀ {n' : Nat} {d' : D} {p' : PyData}, Smp n' d' → toPy d' = some p' → (PyData.eqv p p' = true ↔ d = d')
  | n, _, .str (x := x) => ⟨.str x, rfl, by unfold PyData.depth; omega, fun {n' d' p'} h e => by
    cases h with
    | str => cases e; simp [PyData.eqv]
    | int => cases e; simp [PyData.eqv]
    | tup _ =>
      rw [toPy] at e
      obtain ⟨ps, _, rfl⟩ := Option.map_eq_some_iff.mp e
      simp [PyData.eqv]
    | lst _ =>
      rw [toPy] at e
      obtain ⟨ps, _, rfl⟩ := Option.map_eq_some_iff.mp e
      simp [PyData.eqv]⟩
  | n, _, .int (i := i) => ⟨.int i, rfl, by unfold PyData.depth; omega, fun {n' d' p'} h e => by
    cases h with
    | str => cases e; simp [PyData.eqv]
    | int => cases e; simp [PyData.eqv]
    | tup _ =>
      rw [toPy] at e
      obtain ⟨ps, _, rfl⟩ := Option.map_eq_some_iff.mp e
      simp [PyData.eqv]
    | lst _ =>
      rw [toPy] at e
      obtain ⟨ps, _, rfl⟩ := Option.map_eq_some_iff.mp e
      simp [PyData.eqv]⟩
  | n + 1, _, .tup (ds := ds) hs => by
    obtain ⟨ps, h1, h2, h3⟩ := smpL_py (fun h => smp_py n h) hs
    refine ⟨.tuple ps, by rw [toPy, h1]; rfl, by unfold PyData.depth; omega, fun {n' d' p'} h e => ?_⟩
    cases h with
    | str => cases e; simp [PyData.eqv]
    | int => cases e; simp [PyData.eqv]
    | tup hs' =>
      rw [toPy] at e
      obtain ⟨ps', e1, rfl⟩ := Option.map_eq_some_iff.mp e
      rw [PyData.eqv, h3 hs' e1]
      simp
    | lst hs' =>
      rw [toPy] at e
      obtain ⟨ps', e1, rfl⟩ := Option.map_eq_some_iff.mp e
      simp [PyData.eqv]
  | n + 1, _, .lst (ds := ds) hs => by
    obtain ⟨ps, h1, h2, h3⟩ := smpL_py (fun h => smp_py n h) hs
    refine ⟨.list ps, by rw [toPy, h1]; rfl, by unfold PyData.depth; omega, fun {n' d' p'} h e => ?_⟩
    cases h with
    | str => cases e; simp [PyData.eqv]
    | int => cases e; simp [PyData.eqv]
    | tup hs' =>
      rw [toPy] at e
      obtain ⟨ps', e1, rfl⟩ := Option.map_eq_some_iff.mp e
      simp [PyData.eqv]
    | lst hs' =>
      rw [toPy] at e
      obtain ⟨ps', e1, rfl⟩ := Option.map_eq_some_iff.mp e
      rw [PyData.eqv, h3 hs' e1]
      simp
end DL
namespace L2
open PySem PySem.Spec PyProof.Rows
section
variable {M : Model} {A : Around} {E : Value → Shared → Prop} {s' : Shared} {base : Heap} {env cenv : Env} {outer l : List Env} {e L : Addr} {Z : Obj → Prop} {m : Str → Option Value}
theorem traced_same {h h' : Heap} {fl : Value} (x : HandSPX.TracedZ h base e Z fl) (hn : h.Ns L m) (hs : Heap.SameBut L h h') : HandSPX.TracedZ h' base e Z fl := by
  obtain ⟨oe, vs, T, oT, ts, he, hz, hd, h1, hnT, hTe, hT, hdT, h3⟩ := x
  obtain ⟨oL, es, ep, hoL, hdL, _⟩ := hn
  have k : ∀ {b o}, h.get? b = some o → (∃ vs, o.data = .fields vs) → h'.get? b = some o := fun {b o} hb hf => (hs.2 b fun q => by
    obtain ⟨ws, hf⟩ := hf
    rw [q, hoL] at hb
    cases hb
    rw [hdL] at hf
    cases hf).trans hb
  exact ⟨oe, vs, T, oT, ts, k he ⟨vs, hd⟩, hz, hd, h1, hnT, hTe, k hT ⟨ts, hdT⟩, hdT, h3⟩
theorem comp_lets (hf : cenv.frame = some L) (hbC : base.get? cenv.locals = none) (hn : s'.heap.Ns cenv.locals m) (hh : HandSPX.HeldZ base l e Z L s'.heap)
    (hQ : ∀ h', HandSPX.HeldZ base l e Z L h' → (∀ b o, s'.heap.get? b = some o → b ≠ cenv.locals → (∀ vs, o.data ≠ .fields vs) → ∃ sl, h'.get? b = some { o with slots := sl }) → E (.ref e) { s' with heap := h' }) :
    CompFails M A E cenv (.ref e) s' := by
  refine ⟨m, hn, fun h₂ m₂ hn₂ hs₂ => ?_⟩
  obtain ⟨b1, b0, f1, t1⟩ := hh
  have b2 : base.StaysIn h₂ := fun b o hb => (hs₂.2 b fun q => by rw [q, hbC] at hb; cases hb).trans (b1 b o hb)
  have f2 : h₂.FunFrames base l := Heap.FunFrames.sameBut hs₂ hn₂ f1
  have t2 := traced_same t1 hn hs₂
  obtain ⟨oe, vs, T, oT, ts, he, hz, hd, h1, r⟩ := id t2
  unfold PySem.passOn
  refine wpAny_bind (wpAny_field he hd h1 ?_)
  rw [if_neg (show ¬ ((Value.ref T == Value.none) = true) from by simp)]
  rw [hf]
  refine wpAny_bind (HandSPX.setFlight_anyZ (fr := some L) b2 f2 t2 fun h₃ b3 f3 t3 up => ?_)
  refine wpAny_throw ?_
  refine hQ h₃ ⟨b3, b0, f3, t3⟩ fun b o hb hbL hnf => ?_
  exact up b o ((hs₂.2 b hbL).trans hb) hnf
theorem noted_flyingZ (hZ : HandSPX.Steady Z) (hfr : A.frames = some (env :: outer)) (hcf : cenv.frame = env.frame) (hf : env.frame = some L) (hbC : base.get? cenv.locals = none) (hn : s'.heap.Ns cenv.locals m) (hfl : HandSPX.FlyingZ base (env :: outer) e Z s'.heap)
    (hQ : ∀ h', HandSPX.HeldZ base (env :: outer) e Z L h' → (∀ b o, s'.heap.get? b = some o → b ≠ cenv.locals → (∀ vs, o.data ≠ .fields vs) → ∃ sl, h'.get? b = some { o with slots := sl }) → E (.ref e) { s' with heap := h' }) :
    notedBy M A cenv (CompFails M A E cenv) (.ref e) s' := by
  show wpAny M A (noteFrame (.ref e) cenv) _ _ s'
  rw [PySem.noteFrame_env _ hcf]
  refine HandSPX.looks_onZ hZ hfr hf hfl fun h' hH up => ?_
  refine comp_lets (l := env :: outer) (L := L) (hcf.trans hf) hbC (hn.upToSlots fun b o hb hnf => up b o hb hnf) hH fun h'' hH' hk' => hQ h'' hH' fun b o hb hbC' hnf => ?_
  obtain ⟨sl, e1⟩ := up b o hb hnf
  obtain ⟨sl2, e2⟩ := hk' b _ e1 hbC' hnf
  exact ⟨sl2, e2⟩
end
/-- the context of a block whose element may raise -/
abbrev Cx.blkE (X : Cx) (s : Shared) (H : Hp) (scope : Scope) (cenv : Env) (fp : List Addr) : Cx :=
  { X.blk s H scope cenv fp with xe := notedBy (model X.prog X.w) X.A cenv (CompFails (model X.prog X.w) X.A X.xe cenv) }
section
variable {X : Cx} {pins pins' : List (Addr × Obj)} {σ σ' : St} {H H' H0 H3 : Hp} {s s0 s3 s' : Shared} {scope : Scope} {ce : Env} {fp : List Addr} {E : XK}
theorem okE (o : (X.blk s0 H0 scope ce fp).Ok) : (X.blkE s0 H0 scope ce fp).Ok :=
  ⟨o.mod, o.kind, o.glob, o.blt, o.above, o.inj, o.has, o.cab, o.hd, o.frames, o.stk, o.exf, o.bs, o.bsz, o.noex, o.exfs, o.funs, o.frf⟩
theorem okB (o : (X.blkE s0 H0 scope ce fp).Ok) : (X.blk s0 H0 scope ce fp).Ok :=
  ⟨o.mod, o.kind, o.glob, o.blt, o.above, o.inj, o.has, o.cab, o.hd, o.frames, o.stk, o.exf, o.bs, o.bsz, o.noex, o.exfs, o.funs, o.frf⟩
theorem _root_.L2.Inv.toE (I : Inv (X.blk s0 H0 scope ce fp) pins σ H s) : Inv (X.blkE s0 H0 scope ce fp) pins σ H s :=
  ⟨okE I.ok, I.os, I.bare, I.base, I.loc, I.cell, I.free, I.freeC, I.pin, I.hok, I.len⟩
theorem _root_.L2.Inv.ofE (I : Inv (X.blkE s0 H0 scope ce fp) pins σ H s) : Inv (X.blk s0 H0 scope ce fp) pins σ H s :=
  ⟨okB I.ok, I.os, I.bare, I.base, I.loc, I.cell, I.free, I.freeC, I.pin, I.hok, I.len⟩
/-- a call's exception, flying: the state without it -/
theorem call_flies (I : Inv X pins σ H s) {u : Value} (c : CX X.prog X.w X.stack H s E u s') :
    ∃ (a : Addr) (B : Heap) (sI : Shared) (H' : Hp) (cls : Value) (d : Option Addr), u = .ref a ∧ Inv X pins σ H' sI ∧ (∀ b o, sI.heap.get? b = some o → b ∉ frs X.stack → B.get? b = some o) ∧ sI.heap.UpToSlots s'.heap ∧
      HandSPX.FlyingZ B X.stack a (Zc cls d) s'.heap ∧ H' a = none ∧ s'.os = sI.os ∧ AllBare s'.gens ∧ E cls d H' := by
  obtain ⟨a, B, H', cls, d, rfl, fl, hok, ub, na, os, ag, hE⟩ := c
  obtain ⟨G, g1, g2⟩ := restrict s'.heap fun b => (B.get? b).isSome || decide (b ∈ frs X.stack)
  have st : B.StaysIn s'.heap := fl.1
  have gB : ∀ b o, B.get? b = some o → G.get? b = some o := fun b o e => by
    rw [g1 b (by simp [e])]
    exact st b o e
  have gF : ∀ b, b ∈ frs X.stack → G.get? b = s'.heap.get? b := fun b hb => g1 b (by simp [hb])
  have og : ∀ b o, G.get? b = some o → s'.heap.get? b = some o ∧ ((B.get? b).isSome = true ∨ b ∈ frs X.stack) := fun b o e => by
    cases q : ((B.get? b).isSome || decide (b ∈ frs X.stack)) with
    | false => rw [g2 b q] at e; cases e
    | true =>
      rw [g1 b q] at e
      exact ⟨e, by simpa [Bool.or_eq_true] using q⟩
  refine ⟨a, B, { s with heap := G, gens := s'.gens, drawn := s'.drawn, toks := s'.toks }, H', cls, d, rfl, ?_, fun b o e hb => ?_, Heap.UpToSlots.of_keeps fun b o e => (og b o e).1, fl, na, os, ag, hE⟩
  · refine I.call (ch := []) ⟨fun b o e n hb _ => gB b o (ub.keep b o e n hb), fun b o e n hb _ => ?_, fun b o e n _ => ub.free b o e n, fun b o e _ => ?_, ub.tups, ub.frzs, ub.tbls⟩ (hok.kept gB) ag (fun _ z => nomatch z)
    · obtain ⟨sl, q⟩ := ub.slot b o e hb
      exact ⟨sl, by rw [gF b hb]; exact q⟩
    · by_cases hb : b ∈ frs X.stack
      · obtain ⟨sl, q⟩ := ub.slot b o e hb
        exact ⟨_, by rw [gF b hb]; exact q⟩
      · obtain ⟨o', q⟩ := ub.there b o e hb
        exact ⟨o', gB b o' q⟩
  · obtain ⟨e', h⟩ := og b o e
    rcases h with h | h
    · obtain ⟨o', q⟩ := Option.isSome_iff_exists.mp h
      have z := st b o' q
      rw [e'] at z; cases z
      exact q
    · exact absurd h hb
/-- what a call in the element lets out goes out of the comprehension -/
theorem blk_passes {cl : List (Str × Addr)} (hst : X.stack = X.env :: X.outer) (hfr : X.env.frame = some X.env.locals) (tk : Takes X (fun cls d _ H => E cls d H)) (I3 : Inv X pins σ H3 s3) (f3 : ∀ b ∈ fp, FpOk X pins H3 b) :
    Passes (CX X.prog X.w) (X.blkE s3 H3 scope (compEnvC scope cl s3.heap.objs.size X.env) fp) E := by
  intro pins' σ' H5 s5 u s' I5 c
  obtain ⟨a, B, sI, H', cls, d, rfl, I', nb, up, fl, na, os, ag, hE⟩ := call_flies I5 c
  have fl : HandSPX.FlyingZ B X.stack a (Zc cls d) s'.heap := fl
  have nb : ∀ b o, sI.heap.get? b = some o → b ∉ frs X.stack → B.get? b = some o := nb
  have I7 : Inv X pins σ H' sI := I3.call' (ch := fp) I'.os I'.base I'.hok I'.bare fun b hb => ⟨(f3 b hb).2.2.2.1, (f3 b hb).2.1, (f3 b hb).2.2.2.2.1, (f3 b hb).2.2.2.2.2⟩
  have nC : H' s3.heap.objs.size = none := I'.free
  obtain ⟨f0, f1, f2, f3', f4, f5⟩ := I3.fpOk (H' := H') (Nat.le_refl _) nC
  obtain ⟨m, hn, _⟩ := I'.loc
  have hn : sI.heap.Ns s3.heap.objs.size m := hn
  generalize hC : s3.heap.objs.size = C at *
  have hideB : ∀ b o, (PySem.W.hideAll B [C]).get? b = some o → B.get? b = some o := fun b o e => PySem.W.of_hideAll _ e
  have hideN : ∀ b, B.get? b = none → (PySem.W.hideAll B [C]).get? b = none := fun b e => by
    cases q : (PySem.W.hideAll B [C]).get? b with
    | none => rfl
    | some o => have := hideB b o q; rw [e] at this; cases this
  have hideS : ∀ b o, (PySem.W.hideAll sI.heap [C]).get? b = some o → sI.heap.get? b = some o ∧ b ≠ C := fun b o e => ⟨PySem.W.of_hideAll _ e, fun z => by
    rw [z, PySem.W.hideAll_none _ (List.mem_singleton.mpr rfl)] at e
    cases e⟩
  have I8 : Inv X pins σ H' { sI with heap := PySem.W.hideAll sI.heap [C], toks := sI.toks } := I7.turned (fun b o hb e => PySem.W.hideAll_get _ e (fun z => hb (List.mem_singleton.mp z))) f0 f1 f3' f4 f5
  obtain ⟨fl1, fl2, fl3, oe, vs, T, oT, ts, he, hz, hd, h1, hnT, hTe, hT, hdT, h3⟩ := fl
  have fl' : HandSPX.FlyingZ (PySem.W.hideAll B [C]) (X.env :: X.outer) a (Zc cls d) s'.heap := by
    refine ⟨fun b o e => fl1 b o (hideB b o e), hideN _ fl2, ?_, oe, vs, T, oT, ts, he, hz, hd, h1, hideN _ hnT, hTe, hT, hdT, h3⟩
    rw [← hst]
    exact funFrames_none fl3 fun b hb => hideN b (fl3.mem hb).1
  have hfr2 : X.A.frames = some (X.env :: X.outer) := by rw [I3.ok.frames, hst]
  refine noted_flyingZ (m := m) Zc.steady hfr2 rfl hfr (PySem.W.hideAll_none _ (List.mem_singleton.mpr rfl)) (hn.upToSlots fun b o hb hnf => up b o hb hnf) fl' fun h' hh k' => ?_
  refine tk _ _ ⟨a, PySem.W.hideAll B [C], _, pins, σ, H', cls, d, rfl, I8, fun b o e hb => ?_, fun b o e hnf => ?_, .inr (.inr (by rw [hst]; exact hh)), na, os, ag, hE⟩
  · obtain ⟨e1, e2⟩ := hideS b o e
    exact PySem.W.hideAll_get _ (nb b o e1 hb) fun z => e2 (List.mem_singleton.mp z)
  · obtain ⟨e1, e2⟩ := hideS b o e
    obtain ⟨sl, e3⟩ := up b o e1 hnf
    obtain ⟨sl2, e4⟩ := k' b _ e3 e2 hnf
    exact ⟨sl2, e4⟩
end
section
variable {X : Cx}
theorem lc_coreE {pins : List (Addr × Obj)} {s : Shared} {σ : St} {H : Hp} {Q : VK} {elt tg iter : Expr} {ifs : List Expr} {scope : Scope} {own : List (Str × Nat)} {pos pos' : Pos} {wi : TI} {g : TG} {tt : TT} {te : TE} {Qf : Value → Shared → Prop} {E : XK}
    (hst : X.stack = X.env :: X.outer) (hfr : X.env.frame = some X.env.locals) (tk : Takes X (fun cls d _ H => E cls d H)) (hc : X.calm = true) (hN : X.N.Nodup) (I : Inv X pins σ H s) (hi : PI X tg iter wi) (ok : BlkOk X.N X.env.scope scope own)
    (hg : ∀ (s : Shared) (H : Hp) (C : Addr) (cl : List (Str × Addr)) (fp : List Addr), PG (X.blk s H scope (compEnvC scope cl C X.env) fp) tg g) (ht : ∀ (s : Shared) (H : Hp) (C : Addr) (cl : List (Str × Addr)) (fp : List Addr), PTs (X.blk s H scope (compEnvC scope cl C X.env) fp) ifs tt)
    (he : ∀ (s : Shared) (H : Hp) (C : Addr) (cl : List (Str × Addr)) (fp : List Addr), Passes (CX X.prog X.w) (X.blkE s H scope (compEnvC scope cl C X.env) fp) E → PE (X.blkE s H scope (compEnvC scope cl C X.env) fp) elt te) (hs : ∀ x, foldedSetIterable iter X.env x = pure x)
    (h : tLc wi g tt te (own.map (·.2)) σ H Q)
    (hRR : ∀ D C s' m H', Inv X pins σ H' s' → Q (.ref D) H' → s'.heap.Ns C m → FpOk X pins H' C → ∃ m, s'.heap.Ns C m ∧ ∀ h', Heap.SameBut C s'.heap h' → Qf (.ref D) { s' with heap := h' }) :
    wpAny (model X.prog X.w) X.A (comprehension (.ListComp elt [⟨tg, iter, ifs, 0⟩] scope pos) scope X.env pos' (newList []) false (eval iter X.env) none) Qf X.xe s := by
  have hfree : ∀ y ∈ scope.names, y.2 = .free → ∃ c, X.env.cells.lookup y.1 = some c := fun y hy e => by
    rcases ok.free y hy e with k | k
    · exact I.ok.has _ (.inl k)
    · exact I.ok.has _ (.inr k)
  refine comprehension_at (use := none) rfl hs (closure_ok hfree) ok.kind (fun y hy e => by rw [ok.uniq y hy, e])
    (thn (hi.run pins s σ H _ I h) fun xv s1 hx => thn hx fun itv s2 h2 => ?_)
  obtain ⟨it, fp, tn, J, H2, e, I2, T, st2, f2, q⟩ := h2
  subst e
  refine wpAny_newObj_type (newEnv_comp ?_) (by show 0 ≤ sizeLine; decide)
  generalize hD : s2.heap.objs.size = D
  have hDn : H2 D = none := I2.hok.fresh (Nat.le_of_eq hD)
  obtain ⟨W, ⟨m0, w0⟩, turn⟩ := q D hDn
  -- the new list
  generalize hs3 : ({ s2 with heap := s2.heap.push { cls := .type "list", data := .seq ([] : List Value).toArray } } : Shared) = s3
  have I3 : Inv X pins σ (upd H2 D (.lst [])) s3 := by
    rw [← hs3]
    refine I2.laid (t' := s2.toks) (fun b o e => Heap.get?_push_of_some _ e) (Nat.le_of_eq hD) ⟨Nat.zero_le _, [], 0, .nil, ?_⟩
    rw [← hD]
    exact Heap.get?_push_size _ rfl
  have h3 : s3.heap = s2.heap.push { cls := .type "list", data := .seq ([] : List Value).toArray } := by rw [← hs3]
  have sz : ∀ b ∈ fp, b < s2.heap.objs.size := fun b hb => by
    obtain ⟨o, e, _⟩ := T.obj _ _ st2 b hb
    exact Heap.lt_size e
  have f3 : ∀ b ∈ fp, FpOk X pins (upd H2 D (.lst [])) b ∧ b < s3.heap.objs.size := fun b hb => by
    have hlt := sz b hb
    refine ⟨⟨?_, (f2 b hb).2⟩, by rw [h3, Heap.size_push]; exact Nat.lt_succ_of_lt hlt⟩
    rw [upd_ne (by rw [← hD]; exact Nat.ne_of_lt hlt)]
    exact (f2 b hb).1
  have st3 : tn 0 s3.heap := T.keep _ _ _ st2 fun b _ o e => by rw [h3]; exact Heap.get?_push_of_some _ e
  have I4 := block_start I3 ok hN f3
  have pg := hg s3 (upd H2 D (.lst [])) s3.heap.objs.size (cellsFrom (s3.heap.objs.size + 1) scope.names (cloFrom X.env.cells scope.names [])) fp
  have pt := ht s3 (upd H2 D (.lst [])) s3.heap.objs.size (cellsFrom (s3.heap.objs.size + 1) scope.names (cloFrom X.env.cells scope.names [])) fp
  have pe := he s3 (upd H2 D (.lst [])) s3.heap.objs.size (cellsFrom (s3.heap.objs.size + 1) scope.names (cloFrom X.env.cells scope.names [])) fp (blk_passes hst hfr tk I3 fun b hb => (f3 b hb).1)
  show codeAny _ _ (.compStart (.ListComp elt [⟨tg, iter, ifs, 0⟩] scope pos) 0 (.ref it) (.ref D) (compEnvC scope (cellsFrom (s3.heap.objs.size + 1) scope.names (cloFrom X.env.cells scope.names [])) s3.heap.objs.size X.env)) (compEnds (model X.prog X.w) X.A X.xe none Qf (.ref D) (compEnvC scope (cellsFrom (s3.heap.objs.size + 1) scope.names (cloFrom X.env.cells scope.names [])) s3.heap.objs.size X.env)) { s3 with heap := pushCells (s3.heap.push { cls := .type "dict", data := .dict #[] }) scope.names }
  have nfp : ∀ b ∈ fp, (upd H2 D (.lst [])) b = none := fun b hb => (f3 b hb).1.1
  generalize hce : compEnvC scope (cellsFrom (s3.heap.objs.size + 1) scope.names (cloFrom X.env.cells scope.names [])) s3.heap.objs.size X.env = ce at I4 pg pt pe ⊢
  have cL : ce.locals = s3.heap.objs.size := by subst hce; rfl
  generalize hH3 : upd H2 D (.lst []) = H3 at I3 I4 pg pt pe w0 nfp f3
  generalize hs4 : ({ s3 with heap := pushCells (s3.heap.push { cls := .type "dict", data := .dict #[] }) scope.names } : Shared) = s4 at I4 ⊢
  have st4 : tn 0 s4.heap := T.keep _ _ _ st3 fun b _ o e => by rw [← hs4]; exact pushCells_keeps _ _ _ _ (Heap.get?_push_of_some _ e)
  have stat : ∀ {σ' : St} {H' : Hp} {s' : Shared}, Inv (X.blk s3 H3 scope ce fp) [] σ' H' s' → (∀ b ∈ fp, H' b = none) → ∀ b ∈ fp, FpOk (X.blk s3 H3 scope ce fp) [] H' b := fun {σ' H' s'} I' hn b hb =>
    ⟨hn b hb, (I'.ok.exf b hb).1, I'.ok.exfs b hb, .inl hb, fun x c e => (I'.ok.exf b hb).2 x c e, fun p hp => absurd (show p ∈ ([] : List (Addr × Obj)) ++ [] from hp) (by simp)⟩
  have loop : codeAny (model X.prog X.w) X.A (.compLoop (.ListComp elt [⟨tg, iter, ifs, 0⟩] scope pos) 0 (.ref it) (.ref D) ce) (compEnds (model X.prog X.w) X.A X.xe none Qf (.ref D) ce) s4 := by
    refine compLoop_any (fun n s' => ∃ i H', Inv (X.blk s3 H3 scope ce fp) [] (wipe σ (own.map (·.2))) H' s' ∧ tn i s'.heap ∧ (∀ b ∈ fp, H' b = none) ∧ W i n H') ?_ m0 ⟨0, H3, I4, st4, nfp, w0⟩
    rintro n s5 ⟨i, H5, I5, st5, n5, w5⟩
    rcases turn i n H5 w5 with ⟨stop, qq⟩ | ⟨go, Nx, hNx, step⟩
    · have td := T.done (X.blk s3 H3 scope ce fp) rfl rfl rfl hc i [] s5 _ H5 (fun _ _ => False) I5 (stat I5 n5) st5 stop
      refine thnF td fun r s6 ⟨hr, I6⟩ => ?_
      subst hr
      -- back in the def's context
      have I7 : Inv X pins σ H5 s6 := I3.call' (ch := fp) I6.os I6.base I6.hok I6.bare fun b hb => ⟨(f3 b hb).1.2.2.2.1, (f3 b hb).1.2.1, (f3 b hb).1.2.2.2.2.1, (f3 b hb).1.2.2.2.2.2⟩
      have nC : H5 s3.heap.objs.size = none := by
        have z : H5 ce.locals = none := I6.free
        rw [cL] at z
        exact z
      obtain ⟨m, hn, _⟩ := I6.loc
      have hn : s6.heap.Ns ce.locals m := hn
      rw [cL] at hn
      show ∃ m, s6.heap.Ns ce.locals m ∧ ∀ h', Heap.SameBut ce.locals s6.heap h' → Qf (.ref D) { s6 with heap := h' }
      rw [cL]
      exact hRR D s3.heap.objs.size s6 m H5 I7 qq hn (I3.fpOk (Nat.le_refl _) nC)
    · have ti := T.item (X.blk s3 H3 scope ce fp) rfl rfl rfl hc i [] s5 _ H5 (fun _ _ => False) I5 (stat I5 n5) st5 go
      refine thnF ti fun r s6 ⟨u, hr, h6⟩ => ?_
      subst hr
      refine thnF h6 fun _ s7 ⟨x, H7, I7, r7, y7, st7, n7⟩ => ?_
      have I7' := I7.pinned (stat I7 n7) (T.obj _ _ st7)
      refine thnF (pg.run _ s7 _ H7 x u _ I7' r7 (step x H7 y7)) fun _ s8 ⟨σ8, H8, I8, hw8, q8⟩ => ?_
      refine thnF (pt.run _ s8 σ8 H8 _ I8 q8) fun b s9 ⟨H9, I9, q9⟩ => ?_
      -- the turn's end
      have fin : ∀ {s' : Shared} {H' : Hp}, Inv (X.blk s3 H3 scope ce fp) ([] ++ pinsAt fp s7.heap) σ8 H' s' → Nx H' → ∃ m, m < n ∧ ∃ i H', Inv (X.blk s3 H3 scope ce fp) [] (wipe σ (own.map (·.2))) H' s' ∧ tn i s'.heap ∧ (∀ b ∈ fp, H' b = none) ∧ W i m H' := fun {s' H'} I' nx => by
        obtain ⟨m', hm, w'⟩ := hNx H' nx
        have pin' : ∀ b ∈ fp, ∀ o, s7.heap.get? b = some o → s'.heap.get? b = some o ∧ H' b = none := fun b hb o e =>
          let z := I'.pin (b, o) (List.mem_append_right _ (List.mem_append_right _ (mem_pinsAt hb e)))
          ⟨z.1, z.2.1⟩
        have hl : (wipe σ (own.map (·.2))).length = σ8.length := by rw [← hw8, wipe_length]
        refine ⟨m', hm, i + 1, H', (I'.unpinned (pins := [])).weak hl (fun j v e => ?_), T.keep _ _ _ st7 fun b hb o e => (pin' b hb o e).1, fun b hb => ?_, w'⟩
        · rw [← hw8] at e
          exact (wipe_some e).1
        · obtain ⟨o, e, _⟩ := T.obj _ _ st7 b hb
          exact (pin' b hb o e).2
      cases b with
      | false =>
        simp only [Bool.false_eq_true, if_false] at q9 ⊢
        exact fin I9 q9
      | true =>
        simp only [if_true] at q9 ⊢
        refine wpAny_mono (pe.run _ s9 σ8 H9 _ I9.toE q9) (fun z s10 ⟨yv, H10, I10, r10, acc, hD10, hz10, nx⟩ => ?_) fun _ _ hx => hx
        have I10 := I10.ofE
        exact app_ok (X := X.blk s3 H3 scope ce fp) I10 hD10 hz10 r10 fun s11 I11 => fin I11 nx
  exact codeAny_compStart_list loop (T.self X.A 0 _ _ _ st4 loop)
/-- as a value -/
theorem pe_lcE {elt tg iter : Expr} {ifs : List Expr} {scope : Scope} {own : List (Str × Nat)} {pos : Pos} {wi : TI} {g : TG} {tt : TT} {te : TE} {E : XK} (hst : X.stack = X.env :: X.outer) (hfr : X.env.frame = some X.env.locals) (tk : Takes X (fun cls d _ H => E cls d H)) (hc : X.calm = true) (hN : X.N.Nodup) (hi : PI X tg iter wi) (ok : BlkOk X.N X.env.scope scope own)
    (hg : ∀ (s : Shared) (H : Hp) (C : Addr) (cl : List (Str × Addr)) (fp : List Addr), PG (X.blk s H scope (compEnvC scope cl C X.env) fp) tg g) (ht : ∀ (s : Shared) (H : Hp) (C : Addr) (cl : List (Str × Addr)) (fp : List Addr), PTs (X.blk s H scope (compEnvC scope cl C X.env) fp) ifs tt)
    (he : ∀ (s : Shared) (H : Hp) (C : Addr) (cl : List (Str × Addr)) (fp : List Addr), Passes (CX X.prog X.w) (X.blkE s H scope (compEnvC scope cl C X.env) fp) E → PE (X.blkE s H scope (compEnvC scope cl C X.env) fp) elt te) (hs : ∀ x, foldedSetIterable iter X.env x = pure x := by intro _; rfl) :
    PE X (.ListComp elt [⟨tg, iter, ifs, 0⟩] scope pos) (tLc wi g tt te (own.map (·.2))) := by
  refine ⟨fun pins s σ H Q I h => ?_⟩
  rw [eval_ListComp]
  refine lc_coreE hst hfr tk hc hN I hi ok hg ht he hs h fun D C s' m H' I' q hn f => ⟨m, hn, fun h'' sb => ?_⟩
  obtain ⟨f0, f1, f2, f3, f4, f5⟩ := f
  exact ⟨.ref D, H', I'.turned (t' := s'.toks) (fun b o hb e => (sb.2 b hb).trans e) f0 f1 f3 f4 f5, rfl, q⟩
end
end L2
namespace DL
open PySem PySem.Spec PyProof.Rows L2
/-- a comprehension whose element may raise -/
def wCompLX (t : Tg) (test : WT) (elt : WE) (chk : Sto → Prop) (e0 : Env) (X : PoX) (Q : List D → Sto → Prop) : List D → List D → Sto → Prop
  | [], acc, st => chk st ∧ Q acc st
  | d :: ds, acc, st => chk st ∧ on (asg t d e0) fun e1 => test e1 st XF fun b st1 => if b = true then elt e1 st1 X fun y st2 => wCompLX t test elt chk e0 X Q ds (acc ++ [y]) st2 else wCompLX t test elt chk e0 X Q ds acc st1
def wCompX (wi : WI) (t : Tg) (test : WT) (elt : WE) (vs : List Nat) : WE := fun e st X Q => wi e st X fun ds chk st1 => wCompLX t test elt chk (fgt vs e) X (fun acc st2 => Q (.lst acc) st2) ds [] st1
@[simp] theorem wCompX_ap {wi : WI} {t : Tg} {test : WT} {m : WE} {vs : List Nat} {e : Env} {st : Sto} {X : PoX} {Q : PoE} : wCompX wi t test m vs e st X Q = wi e st X fun ds chk st1 => wCompLX t test m chk (fgt vs e) X (fun acc st2 => Q (.lst acc) st2) ds [] st1 := id rfl
section
variable {X : Cx} {E : XK} {t : Tg} {wi : WI}
theorem comp_coreX {test : WT} {elt : WE} {vs : List Nat} (hv : ∀ i ∈ t.slots, i ∈ vs) {σ : L2.St} {H : Hp} {Q : VK} {Qf : List D → Sto → Prop} {B : Bz} {e : Env} {st : Sto} {Xd : PoX} (S : Sit X.K B e st σ H)
    (pq : ∀ acc vacc D st' H', Qf acc st' → H D = none → H' D = some (.lst vacc) → st' D = none → ¬ B D → RepL X.K H' (mu st' fun a => B a ∨ a = D) acc vacc → acc.length ≤ sizeLine → Ext H (mu st B) H' (mu st' fun a => B a ∨ a = D) → StoOk X.K H' (fun a => B a ∨ a = D) st' → Q (.ref D) H') (px : PostX X.K X.mg B H st Xd E)
    (m : wi e st Xd fun ds chk st1 => wCompLX t test elt chk (fgt vs e) Xd Qf ds [] st1) :
    tLc (tI X.K X.mg E wi) (tG X.K t) (tT X.K X.mg E0 test) (tE X.K X.mg E elt) vs σ H Q := by
  refine ⟨B, e, st, _, Xd, S, fun ds chk st1 J H1 n1 z1 x1 k1 it => ?_, px, m⟩
  intro D hD
  have hDst : st1 D = none := k1.none_ hD
  have nB : ¬ B D := fun b => by
    obtain ⟨_, q⟩ := k1.bu D b
    rw [hD] at q; cases q
  obtain ⟨kb, xb⟩ := k1.busy (us := []) hD
  have hd0 : H D = none := by
    cases q : H D with
    | none => rfl
    | some o => exact absurd hD (x1.tr D (by rw [q]; exact fun z => nomatch z))
  refine ⟨fun i m H2 => m = ds.length - i ∧ i ≤ ds.length ∧ ∃ acc vacc st2, H2 D = some (.lst vacc) ∧ st2 D = none ∧ RepL X.K H2 (mu st2 fun a => B a ∨ a = D) acc vacc ∧ acc.length ≤ i ∧ StoOk X.K H2 (fun a => B a ∨ a = D) st2 ∧ Ext H1 (mu st1 B) H2 (mu st2 fun a => B a ∨ a = D) ∧ wCompLX t test elt chk (fgt vs e) Xd Qf (ds.drop i) acc st2,
    ⟨_, rfl, Nat.zero_le _, [], [], st1, L2.upd_same, hDst, .nil, Nat.zero_le _, kb, xb, n1⟩, ?_⟩
  rintro i m H2 ⟨rfl, hi, acc, vacc, st2, hD2, hDs, ra, la, k2, x2, n2⟩
  have c : chk st2 := by
    cases q : ds.drop i with
    | nil => rw [q] at n2; exact n2.1
    | cons d r => rw [q] at n2; exact n2.1
  obtain ⟨hstop, hgo⟩ := it i _ st2 H2 x2 k2 c hi
  have S0 : Sit X.K (fun a => B a ∨ a = D) (fgt vs e) st2 (L2.wipe σ vs) H2 := ⟨(S.wipe vs).env.ext (x1.trans x2), k2⟩
  by_cases hl : i = ds.length
  · refine .inl ⟨hstop hl, ?_⟩
    subst hl
    rw [List.drop_length] at n2
    exact pq acc vacc D st2 H2 n2.2 hd0 hD2 hDs nB ra (Nat.le_trans la z1) (x1.trans x2) k2
  · have hlt : i < ds.length := by omega
    have hd : ds[i]? = some ds[i] := List.getElem?_eq_getElem hlt
    rw [List.drop_eq_getElem_cons hlt] at n2
    obtain ⟨g1, g2⟩ := hgo _ hd
    refine .inr ⟨g1, fun H3 => ∃ acc vacc st3, H3 D = some (.lst vacc) ∧ st3 D = none ∧ RepL X.K H3 (mu st3 fun a => B a ∨ a = D) acc vacc ∧ acc.length ≤ i + 1 ∧ StoOk X.K H3 (fun a => B a ∨ a = D) st3 ∧ Ext H1 (mu st1 B) H3 (mu st3 fun a => B a ∨ a = D) ∧ wCompLX t test elt chk (fgt vs e) Xd Qf (ds.drop (i + 1)) acc st3,
      fun H3 ⟨acc, vacc, st3, h1, h2, h3⟩ => ⟨_, by omega, rfl, hlt, acc, vacc, st3, h1, h2, h3⟩, fun x H' y => ?_⟩
    obtain ⟨x3, k3, r3⟩ := g2 x H' y
    refine ⟨_, fgt vs e, st2, _, fun e3 => test e3 st2 XF fun b st3 => if b = true then elt e3 st3 Xd fun y st4 => wCompLX t test elt chk (fgt vs e) Xd Qf (ds.drop (i + 1)) (acc ++ [y]) st4 else wCompLX t test elt chk (fgt vs e) Xd Qf (ds.drop (i + 1)) acc st3, S0.on x3 k3, r3, fun e3 σ3 q S3 o => ?_, n2.2⟩
    refine ⟨wipe_eq o hv, _, e3, st2, _, XF, S3, fun b st4 H4 q4 x4 k4 => ?_, noX, q⟩
    have D4 := (x3.trans x4).kp D _ hD2 (fun z => z hDs)
    have D4s : st4 D = none := Classical.not_not.mp D4.2
    cases b with
    | false =>
      rw [if_neg Bool.false_ne_true] at q4
      exact iteF ⟨acc, vacc, st4, D4.1, D4s, (ra.ext x3).ext x4, Nat.le_succ_of_le la, k4, (x2.trans x3).trans x4, q4⟩
    | true =>
      rw [if_pos rfl] at q4
      have x04 := ((x1.trans x2).trans x3).trans x4
      refine iteT ⟨_, e3, st4, _, Xd, S3.on x4 k4, fun d st5 v H5 q5 x5 k5 r5 => ?_, fun y st' c H' hx hm xx kk => ?_, q4⟩
      · have D5 := x5.kp D _ D4.1 (fun z => z D4s)
        have D5s : st5 D = none := Classical.not_not.mp D5.2
        have ra5 := (((ra.ext x3).ext x4).ext x5)
        have la5 : vacc.length = acc.length := ra5.length
        obtain ⟨k6, f6⟩ := k5.fill (us := vacc ++ [v]) (.inr rfl) D5s
        have repL : ∀ {ds vs}, RepL X.K H5 (mu st5 fun a => B a ∨ a = D) ds vs → RepL X.K (L2.upd H5 D (.lst (vacc ++ [v]))) (mu st5 fun a => B a ∨ a = D) ds vs := fun {ds} => by
          induction ds with
          | nil => intro vs r; cases r; exact .nil
          | cons d ds ih => intro vs r; cases r with
            | cons r1 r2 => exact .cons (f6 r1) (ih r2)
        refine ⟨vacc, D5.1, by omega, acc ++ [d], vacc ++ [v], st5, L2.upd_same, D5s, repL (ra5.append (.cons r5 .nil)), by rw [List.length_append]; exact Nat.succ_le_succ la, k6, ?_, q5⟩
        have xx := ((x2.trans x3).trans x4).trans x5
        refine ⟨fun a o ha n => ?_, xx.bz, fun a h => upd_tr a (xx.tr a h)⟩
        obtain ⟨h1, h2⟩ := xx.kp a o ha n
        exact ⟨by rw [L2.upd_ne (ne_of_none ha hD)]; exact h1, h2⟩
      · have x5 := x04.trans xx
        exact px y st' c H' hx hm ⟨x5.kp, fun a h m => x5.bz a h (.inl m), x5.tr⟩ kk.unbusy.1
theorem compX_ok {test : WT} {elt : WE} {vs : List Nat} (hv : ∀ i ∈ t.slots, i ∈ vs) : ∀ σ H Q, tE X.K X.mg E (wCompX wi t test elt vs) σ H Q → tLc (tI X.K X.mg E wi) (tG X.K t) (tT X.K X.mg E0 test) (tE X.K X.mg E elt) vs σ H Q :=
  fun σ H Q ⟨B, e, st, Qd, Xd, S, pq, px, m⟩ => comp_coreX hv S (fun acc vacc D st' H' q hD hD' hs nB r z x k => by
    obtain ⟨k2, w⟩ := k.unbusy
    refine pq (.lst acc) st' (.ref D) H' q ⟨x.kp, fun a h m => x.bz a h (.inl m), x.tr⟩ k2 (.lst ⟨fun m => ?_, .inl hD'⟩ (w r) z)
    rcases m with m | m
    · exact m hs
    · exact nB m) px m
variable {test : WT} {elt : WE} {elt' tg a : Expr} {ifs : List Expr} {scope : Scope} {pos : Pos}
theorem e_compX (tk : Takes X (fun cls d _ H => E cls d H)) (own : List (Str × Nat)) (hc : X.calm = true) (hN : X.N.Nodup) (hi : PIw X E tg a wi) (ok : blkC X.N X.env.scope scope own = true)
    (hg : ∀ (s : Shared) (H : Hp) (C : Addr) (cl : List (Str × Addr)) (fp : List Addr), PGw (X.blk s H scope (compEnvC scope cl C X.env) fp) tg t) (ht : ∀ (s : Shared) (H : Hp) (C : Addr) (cl : List (Str × Addr)) (fp : List Addr), PTsw (X.blk s H scope (compEnvC scope cl C X.env) fp) E0 ifs test)
    (he : ∀ (s : Shared) (H : Hp) (C : Addr) (cl : List (Str × Addr)) (fp : List Addr), Passes (CXp X.prog X.w) (X.blkE s H scope (compEnvC scope cl C X.env) fp) E → PEw (X.blkE s H scope (compEnvC scope cl C X.env) fp) E elt' elt) (hst : X.stack = X.env :: X.outer := by rfl) (hfr : X.env.frame = some X.env.locals := by rfl) (hv : ∀ i ∈ t.slots, i ∈ own.map (·.2) := by decide) (hs : ∀ x, foldedSetIterable a X.env x = pure x := by intro _; rfl) :
    PEw X E (.ListComp elt' [⟨tg, a, ifs, 0⟩] scope pos) (wCompX wi t test elt (own.map (·.2))) := pe_imp (pe_lcE hst hfr tk hc hN hi (blkOk_by ok) hg ht he hs) (compX_ok hv)
theorem compLX_inv {α : Type} {t : Tg} {test : WT} {elt : WE} {chk : Sto → Prop} {e0 : Env} {X : PoX} {Q : List D → Sto → Prop} {enc : α → D} (I : List D → List α → Sto → Prop) (hc : ∀ acc r st, I acc r st → chk st) (h0 : ∀ acc st, I acc [] st → Q acc st)
    (h1 : ∀ x r acc st (N : List D → Sto → Prop), I acc (x :: r) st → (∀ acc' st', I acc' r st' → N acc' st') → on (asg t (enc x) e0) fun e1 => test e1 st XF fun b st1 => if b = true then elt e1 st1 X fun y st2 => N (acc ++ [y]) st2 else N acc st1) :
    ∀ l acc st, I acc l st → wCompLX t test elt chk e0 X Q (l.map enc) acc st
  | [], acc, st, h => ⟨hc _ _ _ h, h0 _ _ h⟩
  | x :: l, acc, st, h => ⟨hc _ _ _ h, h1 x l acc st (fun acc st => wCompLX t test elt chk e0 X Q (l.map enc) acc st) h fun acc' st' => compLX_inv I hc h0 h1 l acc' st'⟩
end
end DL
namespace L2
open PySem PySem.Spec PyProof.Rows
/-- z[::-1] -/
def revS (z : Str) : Str := ⟨((Builtin.Str.strSliceIndices none none (-1) z.length).filterMap (z.cps[·]?)).toArray⟩
theorem revS_mem {z : Str} {c : Nat} (h : c ∈ TL.tl (revS z)) : c ∈ TL.tl z := by
  have h : c ∈ (Builtin.Str.strSliceIndices none none (-1) z.length).filterMap (z.cps[·]?) := h
  obtain ⟨i, _, e⟩ := List.mem_filterMap.mp h
  have := Array.mem_of_getElem? e
  exact Array.mem_toList_iff.mpr this
theorem revS_len {z : Str} : (revS z).length ≤ z.length := by
  show (((Builtin.Str.strSliceIndices none none (-1) z.length).filterMap (z.cps[·]?)).toArray).size ≤ _
  rw [List.size_toArray]
  refine Nat.le_trans (List.length_filterMap_le _ _) ?_
  show (sliceRange ((z.length : Int) - 1) (-1) (-1)).length ≤ _
  unfold sliceRange
  rw [List.length_map, List.length_range]
  simp only [show ¬ ((-1 : Int) > 0) by decide, if_false]
  split <;> simp <;> omega
section
variable {X : Cx}
theorem pe_revS {e : Expr} {te : TE} {k : Nat} {p1 p2 p3 pos : Pos} (he : PE X e te) : PE X (.Subscript e (.Slice none none (some (.UnaryOp .USub (.Constant (.int 1) k p1) p2)) p3) pos)
    (fun σ H Q => te σ H fun x H1 => ∃ z, x = .str z ∧ z.length ≤ sizeLine ∧ Q (.str (revS z)) H1) := by
  refine ⟨fun pins s σ H Q I h => ?_⟩
  refine Subscript_ (thn (he.run pins s σ H _ I h) fun v s1 ⟨x, H1, I1, r1, q1⟩ => ?_)
  obtain ⟨z, ex, hz, q⟩ := q1
  subst ex
  obtain ⟨t, rfl⟩ := r1
  have hst : PO X (some (.UnaryOp .USub (.Constant (.int 1) k p1) p2)) (tPart (tUn (rU fun i => .int (-i)) (tC (.int 1)))) := po_some (pe_un un_neg pe_int)
  refine wpAny_Slice (thn (po_none.run pins s1 σ H1 (fun o H2 => o = none ∧ H2 = H1) I1 ⟨rfl, rfl⟩) fun vl s2 ⟨l, H2, I2, pl, el, e2⟩ => ?_)
  subst el e2
  refine thn (po_none.run pins s2 σ H2 (fun o H3 => o = none ∧ H3 = H2) I2 ⟨rfl, rfl⟩) fun vu s3 ⟨u, H3, I3, pu, eu, e3⟩ => ?_
  subst eu e3
  refine thn (hst.run pins s3 σ H3 (fun o H4 => o = some (-1) ∧ H4 = H3) I3 ⟨1, rfl, -1, rfl, rfl, rfl⟩) fun vs s4 ⟨o, H4, I4, ps, eo, e4⟩ => ?_
  subst eo e4
  have I5 : Inv X pins σ H4 { s4 with heap := s4.heap.push { cls := .type "slice", data := .fields #[vl, vu, vs] } } := I4.kept (t' := s4.toks) fun b ob q => Heap.get?_push_of_some _ q
  obtain ⟨l, rfl, hl2⟩ := IsPart.raw pl
  obtain ⟨u, rfl, hu2⟩ := IsPart.raw pu
  obtain ⟨w, rfl, hw2⟩ := IsPart.raw ps
  show wpAny (model X.prog X.w) X.A (subscriptTail e (.Slice none none (some (.UnaryOp .USub (.Constant (.int 1) k p1) p2)) p3) (.str z t) (.ref s4.heap.objs.size)) (EP X pins σ Q) X.xe { s4 with heap := s4.heap.push { cls := .type "slice", data := .fields #[partValue l, partValue u, partValue w] } }
  refine tail_any (ops := [.str z t, .ref s4.heap.objs.size]) (typeIs_str _ _ _) F.slot_str_getitem.lookup ?_ (by with_unfolding_all rfl)
  refine wpAny_getItem_str_slice (l := l) (u := u) (st := w) ⟨_, Heap.get?_push_size _ rfl, rfl, rfl⟩ (by rw [hw2]; rfl) ?_
  have e1 : slicePicked z l u w = Builtin.Str.strSliceIndices none none (-1) z.length := by
    unfold slicePicked
    rw [hl2, hu2, hw2]
    rfl
  unfold sliceMade
  rw [e1, hw2, if_neg (by simp)]
  exact ⟨Nat.le_trans (revS_len (z := z)) hz, .str _, H4, I5.tok _, ⟨_, rfl⟩, q⟩
end
open PySem.Builtin PySem.Builtin.Str in
def repl1 (x y z : Str) : Str :=
  if ((occurrences x y 0 x.length 1).isEmpty || (y.length == 0 && z.length == 0)) = true then x
  else glued z (partsBetween x (occurrences x y 0 x.length 1) y.length)
open PySem.Builtin PySem.Builtin.Str in
theorem gives_replace1 (x y z : Str) (t u v k : Tok)
    (hf : ((occurrences x y 0 x.length 1).isEmpty || (y.length == 0 && z.length == 0)) = false →
      (u == 0 || v == 0) = false ∧ (u == v) = false ∧ (y == z) = false ∧ tooLong (x.length + (occurrences x y 0 x.length 1).length * z.length) = false) :
    Gives («str.replace» ⟨[.str x t, .str y u, .str z v, .int 1 k], []⟩) (if ((occurrences x y 0 x.length 1).isEmpty || (y.length == 0 && z.length == 0)) = true then .val (.str x t) else .str (glued z (partsBetween x (occurrences x y 0 x.length 1) y.length))) := by
  show Gives (if ((occurrences x y 0 x.length 1).isEmpty || (y.length == 0 && z.length == 0)) = true then (do rule "str.replace.nothing"; ret (.str x t)) else
          (do let same ← isSame (.str y u) (.str z v)
              if same = true then (do rule "str.replace.old-is-new"; ret (.str x t)) else
              if tooLong (x.length + (occurrences x y 0 x.length 1).length * z.length) = true then unsupported "str.replace:memory" else
              retStr (glued z (partsBetween x (occurrences x y 0 x.length 1) y.length)))) _
  cases hc : ((occurrences x y 0 x.length 1).isEmpty || (y.length == 0 && z.length == 0))
  · obtain ⟨h0, huv, hyz, hl⟩ := hf hc
    rw [isSame_str_other y z u v h0 huv hyz, hl]
    exact .of_eq rfl
  · exact .rule (.of_eq rfl)
section
variable {x y z : Str}
open PySem.Builtin PySem.Builtin.Str in
theorem repl1_len : (repl1 x y z).length ≤ x.length + z.length := by
  unfold repl1
  split
  · omega
  · have h1 := StrLaws.occ_length_le x y 0 x.length 1
    have hy : (glued y (partsBetween x (occurrences x y 0 x.length 1) y.length)).length = x.length := by rw [StrLaws.glued_between_self]
    rw [size_glued, length_partsBetween, Nat.add_sub_cancel] at hy
    rw [size_glued, length_partsBetween, Nat.add_sub_cancel]
    have h2 : (occurrences x y 0 x.length 1).length * z.length ≤ 1 * z.length := Nat.mul_le_mul_right _ h1
    omega
theorem parts_mem {k c : Nat} : ∀ {cuts : List Nat} {a : Nat} {p : Str}, p ∈ PySem.StrLaws.partsFrom x k a cuts → c ∈ TL.tl p → c ∈ TL.tl x
  | [], a, p, hp, hc => by
    have e : p = PySem.Builtin.Str.strSub x a x.length := List.mem_singleton.mp hp
    rw [e, TL.tl_strSub] at hc
    exact List.mem_of_mem_drop (List.mem_of_mem_take hc)
  | d :: r, a, p, hp, hc => by
    rcases List.mem_cons.mp hp with e | hp
    · rw [e, TL.tl_strSub] at hc
      exact List.mem_of_mem_drop (List.mem_of_mem_take hc)
    · exact parts_mem (cuts := r) hp hc
theorem joinL_in {S : List Nat} {c : Nat} : ∀ {ps : List (List Nat)}, c ∈ TL.joinL S ps → c ∈ S ∨ ∃ p ∈ ps, c ∈ p
  | [], h => nomatch h
  | [p], h => .inr ⟨p, List.mem_singleton.mpr rfl, h⟩
  | p :: q :: r, h => by
    have h : c ∈ p ++ (S ++ TL.joinL S (q :: r)) := h
    rcases List.mem_append.mp h with h | h
    · exact .inr ⟨p, List.mem_cons_self, h⟩
    rcases List.mem_append.mp h with h | h
    · exact .inl h
    rcases joinL_in h with h | ⟨z, hz, hc⟩
    · exact .inl h
    · exact .inr ⟨z, List.mem_cons_of_mem _ hz, hc⟩
theorem repl1_mem {c : Nat} (h : c ∈ TL.tl (repl1 x y z)) : c ∈ TL.tl x ∨ c ∈ TL.tl z := by
  unfold repl1 at h
  split at h
  · exact .inl h
  · rw [PySem.StrLaws.glued_eq_join, TL.tl_join, PySem.StrLaws.partsBetween_eq] at h
    rcases joinL_in h with h | ⟨p, hp, hc⟩
    · exact .inr h
    · obtain ⟨q, hq, rfl⟩ := List.mem_map.mp hp
      exact .inl (parts_mem hq hc)
end
section
variable {X : Cx} {e b o : Expr} {es : List Expr} {te tb to : TE} {ta : TA}
def PE0T (X : Cx) (e : Expr) (t : TE) : Prop :=
  ∀ (pins : List (Addr × Obj)) (s : Shared) (σ : St) (H : Hp) (Q : VK), Inv X pins σ H s → t σ H Q → wpAny (model X.prog X.w) X.A (eval e X.env) (fun v s' => 1 ≤ s'.toks ∧ EP X pins σ Q v s') X.xe s
theorem pe0_op {c : Str} {j : Nat} {p1 p2 : Pos} {op : Operator} {r : R2} (ho : OpR X (binaryOp op) r) (hb : PE X b tb) : PE0T X (.BinOp (.Constant (.str c) j p1) op b p2) (fun σ H Q => tb σ H fun y H2 => r (.str c) y H2 Q) := by
  intro pins s σ H Q I h
  refine wpAny_BinOp (Calls.Constant_str ?_)
  have I1 := I.tok (s.toks + 1)
  refine wpAny_mono (PySem.wpAny_toks (hb.run pins _ σ H _ I1 h)) (fun u s2 ⟨hk, y, H2, I2, ry, q⟩ => ?_) fun _ _ z => z.2
  have hk : s.toks + 1 ≤ s2.toks := hk
  refine wpAny_mono (PySem.wpAny_toks (ho pins s2 σ H2 (.str c) y (.str c s.toks) u Q I2 ⟨_, rfl⟩ ry q)) (fun v s3 ⟨hk2, q⟩ => ⟨by omega, q⟩) fun _ _ z => z.2
theorem pa_consT (h0 : PE0T X e te) (hr : PAT X es ta) (hs : starEach (e :: es) X.env = (false, eval e X.env) :: starEach es X.env := by rfl) : PA X (e :: es) (tCons te ta) := by
  refine ⟨fun pos pins s σ H Q I h => ?_⟩
  rw [hs]
  show wpAny _ _ (spliced ((false, eval e X.env) :: backTo pos (starEach es X.env))) _ _ s
  refine Calls.spliced_cons (thn (h0 pins s σ H _ I h) fun u s1 ⟨hk, x, H1, I1, r1, q1⟩ => ?_)
  exact thn (hr pos pins s1 σ H1 _ hk I1 q1) fun us s2 ⟨xs, H2, I2, r2, q2⟩ => ⟨x :: xs, H2, I2, .cons r1 r2, q2⟩
theorem PET.of (h : PE X e te) : PET X e te := fun pins s σ H Q _ I q => h.run pins s σ H Q I q
theorem pet_repl1 {y z : Str} {j1 j2 j3 : Nat} {p1 p2 p3 apos cpos : Pos} (hyz : (y == z) = false) (ho : PE X o to)
    (hbase : attributeBase o "replace" X.env (eval o X.env) = eval o X.env := by rfl)
    (hfew : ((backTo cpos (starEach [Expr.Constant (.str y) j1 p1, .Constant (.str z) j2 p2, .Constant (.int 1) j3 p3] X.env)).all (fun x => !x.1) && (backToKw cpos (keywordEach [] X.env)).all (fun x => x.1.isSome)
      && decide ([Expr.Constant (.str y) j1 p1, .Constant (.str z) j2 p2, .Constant (.int 1) j3 p3].length + ([] : List Keyword).length + (if ([] : List Keyword).isEmpty then 0 else 1) < 30)) = true := by rfl)
    (hline : (apos.endLine == cpos.line) = true := by rfl) :
    PET X (.Call (.Attribute o "replace" apos) [.Constant (.str y) j1 p1, .Constant (.str z) j2 p2, .Constant (.int 1) j3 p3] [] cpos)
      (fun σ H Q => to σ H fun x H1 => ∃ a, x = .str a ∧ a.length + z.length ≤ 16000000 ∧ Q (.str (repl1 a y z)) H1) := by
  intro pins s σ H Q h0 I h
  refine wpAny_Call_method_late hbase hfew hline rfl (wpAny_mono (PySem.wpAny_toks (ho.run pins s σ H _ I h)) (fun v s1 ⟨hk, x, H1, I1, r1, q1⟩ => ?_) fun _ _ z => z.2)
  obtain ⟨a, rfl, hz, q⟩ := q1
  obtain ⟨t, rfl⟩ := r1
  have hk : s.toks ≤ s1.toks := hk
  refine ⟨"str", "str.replace", F.plainAttrs_str, F.slot_str_replace, F.type_str_replace, typeIs_str _ _ _, (fun _ e => nomatch e), ?_⟩
  refine Calls.callWith_builtin rfl (Calls.evalArgs_plain ?_)
  show wpAny _ _ (spliced ((false, eval (.Constant (.str y) j1 p1) X.env) :: backTo cpos (starEach [.Constant (.str z) j2 p2, .Constant (.int 1) j3 p3] X.env))) _ _ _
  refine Calls.spliced_cons (Calls.Constant_str ?_)
  show wpAny _ _ (spliced ((false, eval (.Constant (.str z) j2 p2) X.env) :: backTo cpos (starEach [.Constant (.int 1) j3 p3] X.env))) _ _ _
  refine Calls.spliced_cons (Calls.Constant_str ?_)
  show wpAny _ _ (spliced ((false, eval (.Constant (.int 1) j3 p3) X.env) :: backTo cpos (starEach [] X.env))) _ _ _
  refine Calls.spliced_cons (wpAny_Constant_int (Calls.spliced_nil ?_))
  have hl : PySem.Builtin.Str.tooLong (a.length + (PySem.Builtin.Str.occurrences a y 0 a.length 1).length * z.length) = false := by
    have h1 := StrLaws.occ_length_le a y 0 a.length 1
    have h2 : (PySem.Builtin.Str.occurrences a y 0 a.length 1).length * z.length ≤ 1 * z.length := Nat.mul_le_mul_right _ h1
    unfold PySem.Builtin.Str.tooLong
    have := sizeLine_eq
    exact decide_eq_false (by omega)
  refine call_gives F.slot_str_replace (typeIs_str _ _ _) F.entry_str_replace (F.args_str_replace_4 _ _ _ _)
    (gives_replace1 a y z t _ _ _ fun _ => ⟨by simp [show s1.toks ≠ 0 by omega], by simp, hyz, hl⟩) ?_
  have hlen := repl1_len (x := a) (y := y) (z := z)
  have I2 : ∀ n, Inv X pins σ H1 { s1 with toks := n } := fun n => I1.tok n
  have hq' := q
  unfold repl1 at hq' hlen
  split
  · rename_i hc
    rw [if_pos hc] at hq'
    exact ⟨.str a, H1, I2 _, ⟨t, rfl⟩, hq'⟩
  · rename_i hc
    rw [if_neg hc] at hq' hlen
    exact ⟨by have := sizeLine_eq; omega, .str _, H1, I2 _, ⟨_, rfl⟩, hq'⟩
end
end L2
namespace DL
open PySem PySem.Spec PyProof.Rows L2
section
variable {X : Cx} {E : XK} {a b o : Expr} {ma mb mo : WE} {es : List Expr} {n : Nat} {m : WA} {pos : Pos}
theorem okS_iff {x : Str} : okS x = true ↔ ∀ c ∈ TL.tl x, c < 0x110000 := by
  unfold okS PyData.strOk
  rw [← Array.all_toList, List.all_eq_true]
  simp
/-- text[::-1] -/
def dRevS (_ : Sto) : D → Option D
  | .str x => if x.length ≤ sizeLine then some (.str (revS x)) else none
  | _ => none
theorem e_revS {k : Nat} {p1 p2 p3 : Pos} (ha : PEw X E a ma) : PEw X E (.Subscript a (.Slice none none (some (.UnaryOp .USub (.Constant (.int 1) k p1) p2)) p3) pos) (wUn dRevS ma) := pe_imp (pe_revS ha) fun σ H Q ⟨B, e, st, Qd, Xd, S, pq, px, m⟩ =>
  ⟨B, e, st, _, Xd, S, fun d st1 v H1 m1 x1 k1 r1 => by
    obtain ⟨t, ht, q⟩ := on_iff.mp m1
    unfold dRevS at ht
    split at ht
    · split at ht <;> cases ht
      rename_i x hz
      cases r1
      rename_i hx
      exact ⟨x, rfl, hz, pq _ st1 _ H1 q x1 k1 (.str _ (okS_iff.mpr fun c hc => okS_iff.mp hx c (revS_mem hc)))⟩
    · contradiction, px, m⟩
/-- text.upper(), of signs below 128 -/
def asc (x : Str) : Prop := ∀ c ∈ TL.tl x, c < 128
instance {x : Str} : Decidable (asc x) := by unfold asc; infer_instance
def PETw (X : Cx) (E : XK) (e : Expr) (m : WE) : Prop := PET X e (tE X.K X.mg E m)
def PATw (X : Cx) (E : XK) (es : List Expr) (n : Nat) (m : WA) : Prop := PAT X es (tAn X.K X.mg E n m)
theorem at_of (h : PEw X E a ma) : PETw X E a ma := PET.of h
theorem at_nil : PATw X E [] 0 wNil := fun pos pins s σ H Q _ I q => a_nil.run pos pins s σ H Q I q
theorem at_cons {r : WA} (ha : PETw X E a ma) (hr : PATw X E es n r) (hs : starEach (a :: es) X.env = (false, eval a X.env) :: starEach es X.env := by rfl) : PATw X E (a :: es) (n + 1) (wCons ma r) :=
  fun pos pins s σ H Q h0 I ⟨B, e, st, Qd, Xd, S, pq, px, m⟩ => pat_cons ha hr hs pos pins s σ H Q h0 I ⟨B, e, st, _, Xd, S, fun x st1 vx H1 m1 x1 k1 r1 => ⟨B, e, st1, _, Xd, S.on x1 k1, fun ds st2 vs H2 m2 l2 x2 k2 r2 =>
    pq (x :: ds) st2 (vx :: vs) H2 m2 (by rw [List.length_cons, l2]) (x1.trans x2) k2 (.cons (r1.ext x2) r2), px.on x1, m1⟩, px, m⟩
/-- what begins with a written text: c + b -/
def PE0Tw (X : Cx) (E : XK) (e : Expr) (m : WE) : Prop := PE0T X e (tE X.K X.mg E m)
theorem e0_add {c : Str} {j : Nat} {p1 p2 : Pos} (hb : PEw X E b mb) (h : okS c = true := by decide +kernel) : PE0Tw X E (.BinOp (.Constant (.str c) j p1) .Add b p2) (wBin dAdd (wC (.str c)) mb) :=
  fun pins s σ H Q I q => pe0_op op_addD hb pins s σ H Q I (by
    obtain ⟨B, e, st, Qd, Xd, S, pq, px, m⟩ := bin_ok (ma := wC (.str c)) (mb := mb) dAdd_ok σ H Q q
    exact pq (.str c) st (.str c) H m .refl S.sto (.str c h))
theorem a_consT {r : WA} (ha : PE0Tw X E a ma) (hr : PATw X E es n r) (hs : starEach (a :: es) X.env = (false, eval a X.env) :: starEach es X.env := by rfl) : PAw X E (a :: es) (n + 1) (wCons ma r) :=
  pa_imp (pa_consT ha hr hs) fun σ H Q ⟨B, e, st, Qd, Xd, S, pq, px, m⟩ => ⟨B, e, st, _, Xd, S, fun x st1 vx H1 m1 x1 k1 r1 => ⟨B, e, st1, _, Xd, S.on x1 k1, fun ds st2 vs H2 m2 l2 x2 k2 r2 =>
    pq (x :: ds) st2 (vx :: vs) H2 m2 (by rw [List.length_cons, l2]) (x1.trans x2) k2 (.cons (r1.ext x2) r2), px.on x1, m1⟩, px, m⟩
/-- text.replace(y, z, 1) -/
def dRepl1 (y z : Str) (_ : Sto) : D → Option D
  | .str x => if x.length + z.length ≤ 16000000 then some (.str (repl1 x y z)) else none
  | _ => none
theorem e_repl1 {y z : Str} {j1 j2 j3 : Nat} {p1 p2 p3 apos cpos : Pos} (ho : PEw X E o mo) (hyz : ((y == z) = false) ∧ okS z = true := by decide +kernel)
    (hbase : attributeBase o "replace" X.env (eval o X.env) = eval o X.env := by rfl)
    (hfew : ((backTo cpos (starEach [Expr.Constant (.str y) j1 p1, .Constant (.str z) j2 p2, .Constant (.int 1) j3 p3] X.env)).all (fun x => !x.1) && (backToKw cpos (keywordEach [] X.env)).all (fun x => x.1.isSome)
      && decide ([Expr.Constant (.str y) j1 p1, .Constant (.str z) j2 p2, .Constant (.int 1) j3 p3].length + ([] : List Keyword).length + (if ([] : List Keyword).isEmpty then 0 else 1) < 30)) = true := by rfl)
    (hline : (apos.endLine == cpos.line) = true := by rfl) :
    PETw X E (.Call (.Attribute o "replace" apos) [.Constant (.str y) j1 p1, .Constant (.str z) j2 p2, .Constant (.int 1) j3 p3] [] cpos) (wUn (dRepl1 y z) mo) :=
  fun pins s σ H Q h0 I ⟨B, e, st, Qd, Xd, S, pq, px, m⟩ => pet_repl1 hyz.1 ho hbase hfew hline pins s σ H Q h0 I ⟨B, e, st, _, Xd, S, fun d st1 v H1 m1 x1 k1 r1 => by
    obtain ⟨t, ht, q⟩ := on_iff.mp m1
    unfold dRepl1 at ht
    split at ht
    · split at ht <;> cases ht
      rename_i x hz
      cases r1
      rename_i hx
      exact ⟨x, rfl, hz, pq _ st1 _ H1 q x1 k1 (.str _ (okS_iff.mpr fun c hc => (repl1_mem hc).elim (okS_iff.mp hx c) (okS_iff.mp hyz.2 c)))⟩
    · contradiction, px, m⟩
end
end DL
namespace DL
open PySem PySem.Spec PyProof.Rows L2
def F_part_ofX : WF := wDef 6 3 true (wSeq (wIfS (wTB (wBin dEq (wVar 1) (wC (.str "n")))) (wSeq (wDrop (wFn F_need (wCons (wFn F_is_name (wCons (wVar 2) wNil)) wNil))) (wRet (wVar 2))) wSkip) (wSeq (wIfS (wTB (wBin dEq (wVar 1) (wC (.str "s")))) (wSeq (wSet 4 (wCall cTuple (wCons (wCompX (wiSeq (wMeth "str" mSplit (wVar 2) (wCons (wC (.str ",")) wNil))) (.nm 5) wYes (wFn F_number_of (wCons (wVar 5) wNil)) [5]) wNil))) (wSeq (wDrop (wFn F_need (wCons (wFn F_is_side (wCons (wVar 0) (wCons (wVar 4) wNil))) wNil))) (wRet (wVar 4)))) wSkip) (wSeq (wSet 3 (wFn F_number_of (wCons (wVar 2) wNil))) (wSeq (wDrop (wFn F_need (wCons (wOr (wBin dEq (wVar 1) (wC (.str "p"))) (wOr (wAnd (wBin dEq (wVar 1) (wC (.str "k"))) (wBin dGt (wVar 3) (wC (.int 0)))) (wAnd (wBin dEq (wVar 1) (wC (.str "h"))) (wFn F_is_house (wCons (wVar 0) (wCons (wVar 3) wNil)))))) wNil))) (wRet (wVar 3))))))
def F_row_ofX : WF := wDef 7 3 true (wSeq (wSet 3 (wMeth "str" mSplit (wVar 2) (wCons (wC (.str " ")) wNil))) (wSeq (wDrop (wFn F_need (wCons (wBin dIn (wBin ixD (wVar 3) (wC (.int 0))) (wVar 1)) wNil))) (wSeq (wSet 4 (wBin ixD (wVar 1) (wBin ixD (wVar 3) (wC (.int 0))))) (wSeq (wDrop (wFn F_need (wCons (wBin dEq (wCall cLen (wCons (wVar 3) wNil)) (wBin dAdd (wC (.int 1)) (wCall cLen (wCons (wVar 4) wNil)))) wNil))) (wRet (wCall cTuple (wCons (wBin dAdd (wSl (wVar 3) wNo (wPart (wC (.int 1)))) (wCompX (wiZipL (wCons (wVar 4) (wCons (wSl (wVar 3) (wPart (wC (.int 1))) wNo) wNil))) (.tp [(.nm 5), (.nm 6)]) wYes (wFn F_part_ofX (wCons (wVar 0) (wCons (wVar 5) (wCons (wVar 6) wNil)))) [5, 6])) wNil)))))))
def F_read_logX : WF := wDef 3 2 true (wSeq (wIfS (wTB (wBin dEq (wVar 1) (wC (.str "-")))) (wRet (wTup wNil)) wSkip) (wRet (wCall cTuple (wCons (wCompX (wiSeq (wMeth "str" mSplit (wVar 1) (wCons (wC (.str "\n")) wNil))) (.nm 2) wYes (wFn F_row_ofX (wCons (wVar 0) (wCons (wDictTab T_etexts) (wCons (wVar 2) wNil)))) [2]) wNil))))
theorem numL_of : ∀ (k : Nat) (l : List Nat), l.length ≤ k → l ≠ [] → (∀ c ∈ l, 48 ≤ c ∧ c ≤ 57) → (l = [48] ∨ l.head? ≠ some 48) → ∃ n, TL.numL n = l
  | 0, l, hk, hn, _, _ => absurd (List.length_eq_zero_iff.mp (Nat.le_zero.mp hk)) hn
  | k + 1, l, hk, hn, hd, hh => by
    obtain ⟨i, d, rfl⟩ : ∃ i d, l = i ++ [d] := ⟨l.dropLast, l.getLast hn, (List.dropLast_concat_getLast hn).symm⟩
    have hd' := hd d (by simp)
    by_cases hi : i = []
    · subst hi
      refine ⟨d - 48, ?_⟩
      rw [TL.numL_lt (by omega)]
      simp
      omega
    · have hh' : i.head? ≠ some 48 := by
        rcases hh with h | h
        · have := congrArg List.length h
          simp at this
          exact absurd this hi
        · rw [List.head?_append] at h
          cases i with
          | nil => exact absurd rfl hi
          | cons a i => exact h
      obtain ⟨n, en⟩ := numL_of k i (by simp at hk; omega) hi (fun c hc => hd c (List.mem_append_left _ hc)) (.inr hh')
      have n1 : 1 ≤ n := by
        by_cases h0 : n = 0
        · subst h0
          rw [TL.numL_lt (by omega)] at en
          rw [← en] at hh'
          exact absurd rfl hh'
        · omega
      refine ⟨10 * n + (d - 48), ?_⟩
      rw [TL.numL_step (by omega), show (10 * n + (d - 48)) / 10 = n by omega, en, show 48 + (10 * n + (d - 48)) % 10 = d by omega]
theorem numB_num {w : Str} (h : numB w = true) : ∃ n, w = numT n := by
  unfold numB at h
  simp only [Bool.and_eq_true, Bool.not_eq_true', decide_eq_false_iff_not, List.all_eq_true, decide_eq_true_eq, Bool.or_eq_true] at h
  obtain ⟨h1, h2, h3⟩ := h
  have e : TL.tl (Str.ofString "0123456789") = [48, 49, 50, 51, 52, 53, 54, 55, 56, 57] := by decide +kernel
  have e0 : TL.tl (Str.ofString "0") = [48] := by decide +kernel
  have hn : TL.tl w ≠ [] := fun z => h1 (TL.ext_tl (by rw [z]; decide +kernel))
  obtain ⟨n, en⟩ := numL_of _ (TL.tl w) (Nat.le_refl _) hn (fun c hc => by
    have := h2 c hc
    rw [e] at this
    simp only [List.mem_cons, List.not_mem_nil, or_false] at this
    omega) (by
    rcases h3 with h3 | h3
    · exact .inl (by rw [h3]; exact e0)
    · right
      intro z
      cases ht : TL.tl w with
      | nil => exact hn ht
      | cons c r =>
        rw [ht] at h3 z
        have z : c = 48 := by simpa using z
        subst z
        have : ¬ (⟨#[48]⟩ : Str) = Str.ofString "0" := by simpa using h3
        exact this (by decide +kernel))
  exact ⟨n, TL.ext_tl (by rw [numT_tl]; exact en.symm)⟩
theorem numT_int {n : Nat} (h : (numT n).length ≤ 640) : intText? (numT n) = some (n : Int) := TL.int_num (by rw [TL.len_tl, numT_tl] at h; omega)
theorem numT_eq {i j : Nat} (hl : (numT i).length ≤ 640) (e : numT i = numT j) : i = j := by
  have h1 := numT_int hl
  rw [e] at hl h1
  rw [numT_int hl] at h1
  injection h1 with h1
  omega
theorem numsG_inj : ∀ {l l' : List Nat}, (∀ y ∈ l.map numT, y.length ≤ 640) → l.map numT = l'.map numT → l = l'
  | [], [], _, _ => rfl
  | [], _ :: _, _, h => by simp at h
  | _ :: _, [], _, h => by simp at h
  | a :: r, b :: t, hl, h => by
    rw [List.map_cons, List.map_cons] at h
    injection h with h1 h2
    rw [numT_eq (hl _ (by simp)) h1, numsG_inj (fun y hy => hl y (List.mem_cons_of_mem _ hy)) h2]
theorem spl_ne (S : List Nat) : ∀ (l : List Nat) (k : Nat) (acc : List Nat), TL.spl S k acc l ≠ []
  | [], k, acc => by rw [TL.spl_nil]; simp
  | x :: r, k + 1, acc => spl_ne S r k acc
  | x :: r, 0, acc => by
    cases hh : TL.pre S (x :: r) with
    | true => rw [TL.spl_hit hh]; simp
    | false => rw [TL.spl_miss hh]; exact spl_ne S r 0 _
theorem join_spl {s : Nat} : ∀ (l acc : List Nat), TL.joinL [s] (TL.spl [s] 0 acc l) = acc ++ l
  | [], acc => by rw [TL.spl_nil, List.append_nil]; rfl
  | c :: r, acc => by
    cases hh : TL.pre [s] (c :: r) with
    | true =>
      have hc : c = s := by
        have : ([c] == [s]) = true := hh
        simpa using this
      rw [TL.spl_hit hh]
      show TL.joinL [s] (acc :: TL.spl [s] 0 [] r) = _
      have ih := join_spl (s := s) r []
      cases hs : TL.spl [s] 0 [] r with
      | nil => exact absurd hs (spl_ne _ _ _ _)
      | cons p q =>
        rw [hs] at ih
        show acc ++ ([s] ++ TL.joinL [s] (p :: q)) = _
        rw [ih, hc]
        rfl
    | false =>
      rw [TL.spl_miss hh, join_spl r (acc ++ [c]), List.append_assoc]
      rfl
theorem join_split {a y : Str} {s : Nat} (ey : TL.tl y = [s]) (hk : y.cps.all (· < 256) = true) : Txt.join y (Txt.split a y) = a := by
  refine TL.ext_tl ?_
  rw [join_tl, TL.split_spl a y (by rw [ey]; simp) (TL.kind_ok hk), ey, join_spl, List.nil_append]
/-- a part of a form, of any size -/
def FitG (m : Int) : Str → Pt → Prop
  | c, .nam x => c = Str.ofString "n" ∧ nameOk x = true
  | c, .sid l => c = Str.ofString "s" ∧ sideOk m (l.map fun (n : Nat) => (n : Int))
  | c, .num n => c = Str.ofString "p" ∨ (c = Str.ofString "k" ∧ 0 < n) ∨ (c = Str.ofString "h" ∧ (n : Int) < m)
def formC (c : Str) : Prop := c = Str.ofString "n" ∨ c = Str.ofString "s" ∨ c = Str.ofString "p" ∨ c = Str.ofString "k" ∨ c = Str.ofString "h"
theorem spl_plen (S : List Nat) : ∀ (l : List Nat) (k : Nat) (acc : List Nat), ∀ p ∈ TL.spl S k acc l, p.length ≤ acc.length + l.length
  | [], k, acc, p, hp => by
    rw [TL.spl_nil, List.mem_singleton] at hp
    subst hp
    simp
  | x :: r, k + 1, acc, p, hp => Nat.le_trans (spl_plen S r k acc p hp) (by simp)
  | x :: r, 0, acc, p, hp => by
    cases hh : TL.pre S (x :: r) with
    | true =>
      rw [TL.spl_hit hh] at hp
      rcases List.mem_cons.mp hp with rfl | hp
      · simp
      · have := spl_plen S r _ [] p hp
        simp at this ⊢
        omega
    | false =>
      rw [TL.spl_miss hh] at hp
      have := spl_plen S r _ _ p hp
      simp at this ⊢
      omega
theorem spl_short {a b : Str} (h : splitOk a b) : ∀ y ∈ Txt.split a b, y.length ≤ a.length := fun y hy => by
  have h1 : TL.tl y ∈ TL.spl (TL.tl b) 0 [] (TL.tl a) := by rw [← split_tl h]; exact List.mem_map_of_mem hy
  have := spl_plen _ _ _ _ _ h1
  rw [TL.len_tl, TL.len_tl a]
  simpa using this
section
variable {st : Sto} {X : PoX} {Q : PoE} {m : Int} {c w : Str}
theorem ap_number_G (hl : w.length ≤ 640) (h1 : ∀ n, w = numT n → Q (.int n) st) (h2 : (∀ n, w ≠ numT n) → X (Str.ofString "NoText") st) : F_number_of [.str w] st X Q :=
  ap_number_of hl (fun n hb hi => by
    obtain ⟨k, e⟩ := numB_num hb
    rw [e] at hi hl
    rw [numT_int hl] at hi
    cases hi
    exact h1 k e) (fun hb => h2 fun n e => by
      rw [e, num_B] at hb
      cases hb) fun hb => by
    obtain ⟨k, e⟩ := numB_num hb
    rw [e] at hl ⊢
    exact ⟨_, numT_int hl⟩
theorem ap_name_G (hl : w.length ≤ 10000) (hq : Q (.bl (nameOk w)) st) : F_is_name [.str w] st X Q := ap_is_nameD ⟨_, rfl⟩ (fun x e => by cases e; exact hl) hq
theorem ap_house_G {i : Int} (hq : Q (.bl (decide (0 ≤ i ∧ i < m))) st) : F_is_house [.int m, .int i] st X Q := ap_is_houseD kn_int (by
  have e : hsB m (.int i) = decide (0 ≤ i ∧ i < m) := by
    show (decide (0 ≤ i) && decide (i < m)) = _
    simp
  rw [e]
  exact hq)
instance {s : List Int} : Decidable (sideOk m s) := by unfold sideOk houseOk; infer_instance
theorem ap_side_G {s : List Int} (hm : m ≤ 60) (hs : s.length ≤ 10000) (hq : Q (.bl (decide (sideOk m s))) st) : F_is_side [.int m, .tup (s.map .int)] st X Q := by
  have house : ∀ {i : Int} {st : Sto} {X : PoX} {Q : PoE}, Q (.bl (decide (0 ≤ i ∧ i < m))) st → F_is_house [.int m, .int i] st X Q := fun hq => ap_house_G hq
  simp only [F_is_side, wDef_ap]
  generalize F_is_house = Fh at *
  refine ⟨rfl, ?_⟩
  rw [wSeq_ap]
  simp [-wSeq_ap]
  refine compL_imp (enc := D.int) (fun x : Int => [some (.int m), some (.tup (s.map .int)), some (.int x)]) (fun x => !decide (0 ≤ x ∧ x < m)) D.int ?_ ?_ ?_ trivial ?_
  · simp
  · intro x hx Q hq
    simp
    refine house ?_
    simp only [truth_bl, on_some]
    exact hq
  · intro x _ _ Q hq
    simpa using hq
  · rw [List.nil_append, dNe_lnil (plL_map fun _ _ => pl_int), on_some]
    by_cases c1 : ∀ x ∈ s, houseOk m x
    · have e : (s.filter fun x => !decide (0 ≤ x ∧ x < m)) = [] := List.filter_eq_nil_iff.mpr fun x hx => by
        have := c1 x hx
        unfold houseOk at this
        simp
        exact this
      rw [e]
      simp
      by_cases c2 : 0 < s.length
      · simp [c2]
        by_cases c3 : (s.length : Int) < m
        · have h6 : s.length ≤ 60 := by omega
          have e4 : ((tpOf (.tup (s.map .int))).bind intsOf) = some s := intsOf_iff.mpr rfl
          simp [c3, e4, h6, dEq_lints]
          have e5 : decide (s = setI s) = decide (sideOk m s) := by
            rw [Bool.eq_iff_iff, decide_eq_true_iff, decide_eq_true_iff]
            rw [setI_iff]
            exact ⟨fun h => ⟨c1, c2, c3, h⟩, fun h => h.2.2.2⟩
          rw [e5]
          exact hq
        · simp [c3]
          have e5 : decide (sideOk m s) = false := decide_eq_false fun h => c3 h.2.2.1
          rw [e5] at hq
          exact hq
      · simp [c2]
        have e5 : decide (sideOk m s) = false := decide_eq_false fun h => c2 h.2.1
        rw [e5] at hq
        exact hq
    · have e5 : decide (sideOk m s) = false := decide_eq_false fun h => c1 h.1
      have e : ((s.filter fun x => !decide (0 ≤ x ∧ x < m)).map D.int).isEmpty = false := by
        cases hf : (s.filter fun x => !decide (0 ≤ x ∧ x < m)) with
        | nil =>
          exfalso
          apply c1
          intro x hx
          have := (List.filter_eq_nil_iff.mp hf) x hx
          simp at this
          exact this
        | cons a r => rfl
      rw [e]
      simp
      rw [e5] at hq
      exact hq
theorem fitG_inj {p p' : Pt} (hl : w.length ≤ 640) (h : FitG m c p) (h' : FitG m c p') (e : p.t = w) (e' : p'.t = w) : p = p' := by
  have n1 : ¬ Str.ofString "n" = Str.ofString "s" := by decide +kernel
  have n2 : ¬ Str.ofString "n" = Str.ofString "p" := by decide +kernel
  have n3 : ¬ Str.ofString "n" = Str.ofString "k" := by decide +kernel
  have n4 : ¬ Str.ofString "n" = Str.ofString "h" := by decide +kernel
  have s2 : ¬ Str.ofString "s" = Str.ofString "p" := by decide +kernel
  have s3 : ¬ Str.ofString "s" = Str.ofString "k" := by decide +kernel
  have s4 : ¬ Str.ofString "s" = Str.ofString "h" := by decide +kernel
  cases p with
  | nam x =>
    cases p' with
    | nam y => exact congrArg Pt.nam (e.trans e'.symm)
    | sid l => exact absurd (h.1.symm.trans h'.1) n1
    | num i => rcases h' with z | z | z <;> first | exact absurd (h.1.symm.trans z) n2 | exact absurd (h.1.symm.trans z.1) n3 | exact absurd (h.1.symm.trans z.1) n4
  | sid l =>
    cases p' with
    | nam y => exact absurd (h'.1.symm.trans h.1) n1
    | sid l' =>
      have hn : ∀ {l : List Nat}, sideOk m (l.map fun (n : Nat) => (n : Int)) → l ≠ [] := fun h z => by rw [z] at h; exact absurd h.2.1 (by simp)
      have e : Txt.join comma (l.map numT) = w := e
      have e' : Txt.join comma (l'.map numT) = w := e'
      have h1 := side_split (hn h.2)
      have h2 := side_split (hn h'.2)
      have sp : splitOk w comma := ⟨by decide +kernel, by have := sizeLine_eq; omega, by decide +kernel⟩
      have len : ∀ y ∈ l.map numT, y.length ≤ 640 := fun y hy => by
        rw [← h1, e] at hy
        exact Nat.le_trans (spl_short sp y hy) hl
      rw [e] at h1
      rw [e', h1] at h2
      rw [numsG_inj len h2]
    | num i => rcases h' with z | z | z <;> first | exact absurd (h.1.symm.trans z) s2 | exact absurd (h.1.symm.trans z.1) s3 | exact absurd (h.1.symm.trans z.1) s4
  | num i =>
    cases p' with
    | nam y => rcases h with z | z | z <;> first | exact absurd (h'.1.symm.trans z) n2 | exact absurd (h'.1.symm.trans z.1) n3 | exact absurd (h'.1.symm.trans z.1) n4
    | sid l => rcases h with z | z | z <;> first | exact absurd (h'.1.symm.trans z) s2 | exact absurd (h'.1.symm.trans z.1) s3 | exact absurd (h'.1.symm.trans z.1) s4
    | num j =>
      have e : numT i = w := e
      have e' : numT j = w := e'
      exact congrArg Pt.num (numT_eq (by rw [e]; exact hl) (e.trans e'.symm))
theorem ap_part_G (hm : m ≤ 60) (hc : formC c) (hl : w.length ≤ 640) (h1 : ∀ p, FitG m c p → p.t = w → Q p.d st) (h2 : (∀ p, FitG m c p → p.t ≠ w) → X (Str.ofString "NoText") st) : F_part_ofX [.int m, .str c, .str w] st X Q := by
  have sz := sizeLine_eq
  have need : ∀ {b : Bool} {st : Sto} {X : PoX} {Q : PoE}, (b = true → Q .non st) → (b = false → X (Str.ofString "NoText") st) → F_need [.bl b] st X Q := fun h1 h2 => ap_need h1 h2
  have num : ∀ {w : Str} {st : Sto} {X : PoX} {Q : PoE}, w.length ≤ 640 → (∀ n, w = numT n → Q (.int n) st) → ((∀ n, w ≠ numT n) → X (Str.ofString "NoText") st) → F_number_of [.str w] st X Q := fun h h1 h2 => ap_number_G h h1 h2
  have side : ∀ {s : List Int} {st : Sto} {X : PoX} {Q : PoE}, s.length ≤ 10000 → Q (.bl (decide (sideOk m s))) st → F_is_side [.int m, .tup (s.map .int)] st X Q := fun h hq => ap_side_G hm h hq
  have name : ∀ {x : Str} {st : Sto} {X : PoX} {Q : PoE}, x.length ≤ 10000 → Q (.bl (nameOk x)) st → F_is_name [.str x] st X Q := fun h hq => ap_name_G h hq
  have house : ∀ {i : Int} {st : Sto} {X : PoX} {Q : PoE}, Q (.bl (decide (0 ≤ i ∧ i < m))) st → F_is_house [.int m, .int i] st X Q := fun hq => ap_house_G hq
  have e0 : st.keepOnly st = st := Sto.keepOnly_self st
  have en : ¬ Str.ofString "s" = Str.ofString "n" := by decide +kernel
  have ep : ¬ Str.ofString "p" = Str.ofString "n" := by decide +kernel
  have ek : ¬ Str.ofString "k" = Str.ofString "n" := by decide +kernel
  have eh : ¬ Str.ofString "h" = Str.ofString "n" := by decide +kernel
  have ep2 : ¬ Str.ofString "p" = Str.ofString "s" := by decide +kernel
  have ek2 : ¬ Str.ofString "k" = Str.ofString "s" := by decide +kernel
  have eh2 : ¬ Str.ofString "h" = Str.ofString "s" := by decide +kernel
  have ek3 : ¬ Str.ofString "k" = Str.ofString "p" := by decide +kernel
  have eh3 : ¬ Str.ofString "h" = Str.ofString "p" := by decide +kernel
  have eh4 : ¬ Str.ofString "h" = Str.ofString "k" := by decide +kernel
  have en3 : ¬ Str.ofString "n" = Str.ofString "p" := fun z => ep z.symm
  have en4 : ¬ Str.ofString "n" = Str.ofString "k" := fun z => ek z.symm
  have en5 : ¬ Str.ofString "n" = Str.ofString "h" := fun z => eh z.symm
  have es3 : ¬ Str.ofString "s" = Str.ofString "p" := fun z => ep2 z.symm
  have es4 : ¬ Str.ofString "s" = Str.ofString "k" := fun z => ek2 z.symm
  have es5 : ¬ Str.ofString "s" = Str.ofString "h" := fun z => eh2 z.symm
  simp only [F_part_ofX, wDef_ap]
  generalize F_need = Fn at *
  generalize F_number_of = Fm at *
  generalize F_is_side = Fs at *
  generalize F_is_name = Fa at *
  generalize F_is_house = Fh at *
  refine ⟨rfl, ?_⟩
  rw [wSeq_ap]
  -- numbers
  have numC : ∀ {b : Nat → Bool}, (∀ n, FitG m c (.num n) ↔ b n = true) → (∀ p, FitG m c p → ∃ n, p = .num n) → (∀ n, w = numT n → (b n = true → Q (.int n) st) ∧ (b n = false → X (Str.ofString "NoText") st)) ∧ ((∀ n, w ≠ numT n) → X (Str.ofString "NoText") st) := by
    intro b hb hp
    refine ⟨fun n hn => ⟨fun hbn => h1 (.num n) ((hb n).mpr hbn) hn.symm, fun hbn => h2 fun p hf hp' => ?_⟩, fun hn => h2 fun p hf hp' => ?_⟩
    · obtain ⟨n', rfl⟩ := hp p hf
      have hp' : numT n' = w := hp'
      have : n' = n := numT_eq (by rw [hp']; exact hl) (hp'.trans hn)
      rw [this] at hf
      rw [(hb n).mp hf] at hbn
      cases hbn
    · obtain ⟨n', rfl⟩ := hp p hf
      exact hn n' hp'.symm
  rcases hc with rfl | rfl | rfl | rfl | rfl
  · simp [-wSeq_ap]
    rw [wSeq_ap]
    simp [-wSeq_ap]
    refine name (by omega) ?_
    refine need (fun hx => ?_) (fun hx => ?_)
    · simp
      exact h1 (.nam w) ⟨rfl, hx⟩ rfl
    · rw [e0]
      refine h2 fun p hf hp => ?_
      cases p with
      | nam y =>
        have hp : y = w := hp
        rw [← hp, hf.2] at hx
        cases hx
      | sid l => exact absurd hf.1.symm en
      | num n => rcases hf with z | z | z <;> first | exact en3 z | exact en4 z.1 | exact en5 z.1
  · have sp : splitOk w comma := ⟨by decide +kernel, by omega, by decide +kernel⟩
    have ems : mSplit st (.str w) [.str (Str.ofString ",")] = some (.lst ((Txt.split w comma).map D.str), st) := by
      unfold mSplit
      simp only
      rw [if_pos (show splitOk w (Str.ofString ",") from sp)]
      rfl
    have shorts := spl_short sp
    have hcount := split_len sp
    have bad : ∀ y ∈ Txt.split w comma, (∀ n, y ≠ numT n) → X (Str.ofString "NoText") st := fun y hy hn => h2 fun p hf hp => by
      cases p with
      | nam z => exact en hf.1
      | sid l =>
        have hp : Txt.join comma (l.map numT) = w := hp
        have hne : l ≠ [] := fun z => by rw [z] at hf; exact absurd hf.2.2.1 (by simp)
        rw [← hp, side_split hne] at hy
        obtain ⟨n, _, rfl⟩ := List.mem_map.mp hy
        exact hn n rfl
      | num n => rcases hf with z | z | z <;> first | exact es3 z | exact es4 z.1 | exact es5 z.1
    simp [-wSeq_ap, en]
    rw [wSeq_ap]
    simp [-wSeq_ap, -List.map_map]
    rw [wSeq_ap]
    simp [-wSeq_ap, -List.map_map, tyNm]
    rw [ems, on_some]
    simp only [sqOf_lst, on_some]
    refine compLX_inv (enc := D.str) (fun acc rest st' => st' = st ∧ ∃ (l : List Nat) (done : List Str), acc = l.map (fun (n : Nat) => D.int n) ∧ done = l.map numT ∧ Txt.split w comma = done ++ rest) (fun _ _ _ _ => trivial) ?_ ?_ _ _ _ ⟨rfl, [], [], rfl, rfl, rfl⟩
    · rintro acc st' ⟨rfl, l, done, rfl, rfl, hs⟩
      rw [List.append_nil] at hs
      have ll : l.length ≤ 10000 := by
        have := congrArg List.length hs
        rw [List.length_map] at this
        omega
      have e : (l.map fun (n : Nat) => D.int n) = (l.map fun (n : Nat) => (n : Int)).map D.int := by rw [List.map_map]; rfl
      have ew : w = (Pt.sid l).t := by
        show w = Txt.join comma (l.map numT)
        rw [← hs, join_split comma_tl (by decide +kernel)]
      rw [e]
      rw [wSeq_ap]
      simp [-wSeq_ap, -List.map_map]
      refine side (by rw [List.length_map]; exact ll) ?_
      refine need (fun hx => ?_) (fun hx => ?_)
      · simp [-List.map_map]
        have := h1 (.sid l) ⟨rfl, of_decide_eq_true hx⟩ ew.symm
        have e2 : (Pt.sid l).d = .tup ((l.map fun (n : Nat) => (n : Int)).map D.int) := by rw [← e]; rfl
        rw [e2] at this
        exact this
      · rw [e0]
        refine h2 fun p hf hp => ?_
        cases p with
        | nam z => exact en hf.1
        | sid l' =>
          have hp : Txt.join comma (l'.map numT) = w := hp
          have hne : l' ≠ [] := fun z => by rw [z] at hf; exact absurd hf.2.2.1 (by simp)
          have h3 := side_split hne
          rw [hp, hs] at h3
          have len : ∀ y ∈ l.map numT, y.length ≤ 640 := fun y hy => by
            rw [← hs] at hy
            exact Nat.le_trans (shorts y hy) hl
          rw [numsG_inj len h3] at hx
          exact of_decide_eq_false hx hf.2
        | num n => rcases hf with z | z | z <;> first | exact es3 z | exact es4 z.1 | exact es5 z.1
    · rintro y rest acc st' N ⟨rfl, l, done, rfl, rfl, hs⟩ hN
      simp [-List.map_map]
      refine num (Nat.le_trans (shorts y (by rw [hs]; simp)) hl) (fun n hn => ?_) (fun hn => ?_)
      · refine hN _ _ ⟨rfl, l ++ [n], (l ++ [n]).map numT, by simp, rfl, ?_⟩
        rw [hs, hn]
        simp
      · rw [e0]
        exact bad y (by rw [hs]; simp) hn
  · obtain ⟨g1, g2⟩ := numC (b := fun _ => true) (fun n => ⟨fun _ => rfl, fun _ => .inl rfl⟩) (fun p hf => by
      cases p with
      | nam x => exact absurd hf.1 ep
      | sid l => exact absurd hf.1 ep2
      | num n => exact ⟨n, rfl⟩)
    simp [-wSeq_ap, ep, ep2]
    rw [wSeq_ap]
    simp [-wSeq_ap, ep, ep2]
    rw [wSeq_ap]
    simp [-wSeq_ap, ep, ep2]
    refine num hl (fun n hn => ?_) (fun hn => by rw [e0]; exact g2 hn)
    rw [wSeq_ap]
    simp [-wSeq_ap, ep, ep2]
    refine need (fun _ => ?_) (fun z => nomatch z)
    simp
    exact (g1 n hn).1 rfl
  · obtain ⟨g1, g2⟩ := numC (b := fun n => decide (0 < n)) (fun n => ⟨fun h => by
      rcases h with h | h | h
      · exact absurd h ek3
      · exact decide_eq_true h.2
      · exact absurd h.1.symm eh4, fun h => .inr (.inl ⟨rfl, of_decide_eq_true h⟩)⟩) (fun p hf => by
      cases p with
      | nam x => exact absurd hf.1 ek
      | sid l => exact absurd hf.1 ek2
      | num n => exact ⟨n, rfl⟩)
    simp [-wSeq_ap, ek, ek2, ek3]
    rw [wSeq_ap]
    simp [-wSeq_ap, ek, ek2, ek3]
    rw [wSeq_ap]
    simp [-wSeq_ap, ek, ek2, ek3]
    refine num hl (fun n hn => ?_) (fun hn => by rw [e0]; exact g2 hn)
    rw [wSeq_ap]
    have ekh : ¬ Str.ofString "k" = Str.ofString "h" := fun z => eh4 z.symm
    simp [-wSeq_ap, ek, ek2, ek3, ekh]
    by_cases c0 : 0 < n
    · rw [if_pos c0, decide_eq_true c0]
      refine need (fun _ => ?_) (fun z => nomatch z)
      simp
      exact (g1 n hn).1 (decide_eq_true c0)
    · rw [if_neg c0]
      refine need (fun z => nomatch z) (fun _ => ?_)
      rw [e0]
      exact (g1 n hn).2 (decide_eq_false c0)
  · obtain ⟨g1, g2⟩ := numC (b := fun n => decide ((n : Int) < m)) (fun n => ⟨fun h => by
      rcases h with h | h | h
      · exact absurd h eh3
      · exact absurd h.1 eh4
      · exact decide_eq_true h.2, fun h => .inr (.inr ⟨rfl, of_decide_eq_true h⟩)⟩) (fun p hf => by
      cases p with
      | nam x => exact absurd hf.1 eh
      | sid l => exact absurd hf.1 eh2
      | num n => exact ⟨n, rfl⟩)
    simp [-wSeq_ap, eh, eh2, eh3, eh4]
    rw [wSeq_ap]
    simp [-wSeq_ap, eh, eh2, eh3, eh4]
    rw [wSeq_ap]
    simp [-wSeq_ap, eh, eh2, eh3, eh4]
    refine num hl (fun n hn => ?_) (fun hn => by rw [e0]; exact g2 hn)
    rw [wSeq_ap]
    simp [-wSeq_ap, eh, eh2, eh3, eh4]
    refine house ?_
    have eb : decide (0 ≤ (n : Int) ∧ (n : Int) < m) = decide ((n : Int) < m) := by simp
    rw [eb]
    refine need (fun z => ?_) (fun z => ?_)
    · simp
      exact (g1 n hn).1 z
    · rw [e0]
      exact (g1 n hn).2 z
/-- a row that a text writes -/
def RowG (m : Int) (tab : TabS) (t w : Str) (ps : List Pt) : Prop := Txt.split t blank = w :: ps.map Pt.t ∧ ∃ form, getT tab w = some form ∧ form.length = ps.length ∧ ∀ q ∈ ((TL.tl form).map fun c => (⟨#[c]⟩ : Str)).zip ps, FitG m q.1 q.2
def tabOk (tab : TabS) : Prop := ∀ q ∈ tab, q.2.length ≤ 10 ∧ q.2.cps.all (· < 128) = true ∧ ∀ c ∈ (TL.tl q.2).map fun c => (⟨#[c]⟩ : Str), formC c
instance {c : Str} : Decidable (formC c) := by unfold formC; infer_instance
theorem etab_ok : tabOk T_etexts := by unfold tabOk; decide +kernel
theorem getT_in {tab : TabS} {w form : Str} (h : getT tab w = some form) : (w, form) ∈ tab := by
  unfold getT at h
  obtain ⟨q, h1, h2⟩ := Option.map_eq_some_iff.mp h
  have h3 := List.find?_some h1
  have h4 := List.mem_of_find?_eq_some h1
  have e : q.1 = w := by simpa using h3
  cases q
  simp only at e h2
  subst e h2
  exact h4
theorem zip_same : ∀ {cs : List Str} {ps : List Pt} {ws : List Str}, ws = ps.map Pt.t → (cs.zip ws) = (cs.zip ps).map fun q => (q.1, q.2.t)
  | cs, ps, _, rfl => by rw [List.zip_map_right]; rfl
theorem ap_row_G {q : Addr} {tab : TabS} {t : Str} (hm : m ≤ 60) (ht : tabOk tab) (hd : st q = some (.dk (encT D.str tab))) (hl : t.length ≤ 640) (h1 : ∀ w ps, RowG m tab t w ps → Q (Rw2.d (w, ps)) st) (h2 : (∀ w ps, ¬ RowG m tab t w ps) → X (Str.ofString "NoText") st) : F_row_ofX [.int m, .ref q, .str t] st X Q := by
  have sz := sizeLine_eq
  have need : ∀ {b : Bool} {st : Sto} {X : PoX} {Q : PoE}, (b = true → Q .non st) → (b = false → X (Str.ofString "NoText") st) → F_need [.bl b] st X Q := fun h1 h2 => ap_need h1 h2
  have part : ∀ {c w : Str} {st : Sto} {X : PoX} {Q : PoE}, formC c → w.length ≤ 640 → (∀ p, FitG m c p → p.t = w → Q p.d st) → ((∀ p, FitG m c p → p.t ≠ w) → X (Str.ofString "NoText") st) → F_part_ofX [.int m, .str c, .str w] st X Q := fun hc hl h1 h2 => ap_part_G hm hc hl h1 h2
  have e0 : st.keepOnly st = st := Sto.keepOnly_self st
  simp only [F_row_ofX, wDef_ap]
  generalize F_need = Fn at *
  generalize F_part_ofX = Fp at *
  have sp : splitOk t blank := ⟨by decide +kernel, by omega, by decide +kernel⟩
  have ems : mSplit st (.str t) [.str (Str.ofString " ")] = some (.lst ((Txt.split t blank).map D.str), st) := by
    unfold mSplit
    simp only
    rw [if_pos (show splitOk t (Str.ofString " ") from sp)]
    rfl
  have shorts := spl_short sp
  have hcount := split_len sp
  refine ⟨rfl, ?_⟩
  rw [wSeq_ap]
  simp [-wSeq_ap, tyNm]
  rw [ems, on_some]
  dsimp only
  obtain ⟨w, ws, hs⟩ : ∃ w ws, Txt.split t blank = w :: ws := by
    cases h : Txt.split t blank with
    | nil =>
      have := split_tl sp
      rw [h] at this
      exact absurd this.symm (spl_ne _ _ _ _)
    | cons w ws => exact ⟨w, ws, rfl⟩
  rw [hs] at shorts hcount ⊢
  rw [List.map_cons]
  rw [wSeq_ap]
  simp [-wSeq_ap, -List.map_map, atI_0]
  rw [dIn_T hd, on_some]
  have km := getT_some (kvs := tab) (k := w)
  rw [← km]
  refine need (fun hg => ?_) (fun hg => ?_)
  rotate_left
  · rw [e0]
    refine h2 fun w' ps ⟨r1, form, r2, _⟩ => ?_
    rw [hs] at r1
    injection r1 with r1 _
    rw [← r1] at r2
    rw [r2] at hg
    cases hg
  obtain ⟨form, hf⟩ := Option.isSome_iff_exists.mp hg
  obtain ⟨t1, t2, t3⟩ := ht _ (getT_in hf)
  have t1 : form.length ≤ 10 := t1
  rw [wSeq_ap]
  simp [-wSeq_ap, -List.map_map, atI_0]
  rw [ixD_T hd hf, on_some]
  rw [wSeq_ap]
  have cl : ∀ st, cLen st [.str form] = some (.int form.length) := fun st => by
    simp [cLen, lenD]; omega
  simp [-wSeq_ap, -List.map_map, cl]
  refine need (fun hc => ?_) (fun hc => ?_)
  rotate_left
  · rw [e0]
    refine h2 fun w' ps ⟨r1, form', r2, r3, _⟩ => ?_
    rw [hs] at r1
    injection r1 with r1 r4
    rw [← r1, hf] at r2
    cases r2
    have : ws.length = ps.length := by rw [r4, List.length_map]
    have hc := of_decide_eq_false hc
    omega
  have hc : (ws.length : Int) + 1 = 1 + (form.length : Int) := of_decide_eq_true hc
  have ec : cutD (D.str w :: ws.map D.str) (some 1) none = ws.map D.str := by rw [cutD_from (by omega)]; rfl
  have ec2 : cutD (D.str w :: ws.map D.str) none (some 1) = [D.str w] := by rw [cutD_to (by omega)]; rfl
  have ez : zipT [D.str form, .lst (ws.map D.str)] = some (form, ws.map D.str) := by
    unfold zipT
    simp only
    rw [if_pos ⟨by omega, t2⟩]
  rw [ec, ec2, ez, on_some]
  have hz : zipL (DL.signs form) (ws.map D.str) = (((TL.tl form).map fun c => (⟨#[c]⟩ : Str)).zip ws).map fun q => D.tup [.str q.1, .str q.2] := by
    have e1 : DL.signs form = ((TL.tl form).map fun c => (⟨#[c]⟩ : Str)).map D.str := by rw [List.map_map]; rfl
    rw [e1, zipL_zip, List.zip_map_right, List.map_map]
    rfl
  rw [hz]
  have lsg : ((TL.tl form).map fun c => (⟨#[c]⟩ : Str)).length = ws.length := by
    rw [List.length_map, ← TL.len_tl]
    omega
  generalize hcs : ((TL.tl form).map fun c => (⟨#[c]⟩ : Str)) = cs at *
  refine compLX_inv (enc := fun q : Str × Str => D.tup [.str q.1, .str q.2]) (fun acc rest st' => st' = st ∧ ∃ (done : List (Str × Str)) (ps : List Pt), cs.zip ws = done ++ rest ∧ done.map (·.2) = ps.map Pt.t ∧ done.length = ps.length ∧ (∀ q ∈ (done.map (·.1)).zip ps, FitG m q.1 q.2) ∧ acc = ps.map Pt.d) (fun _ _ _ _ => trivial) ?_ ?_ _ _ _ ⟨rfl, [], [], rfl, rfl, rfl, fun _ h => (by cases h), rfl⟩
  · rintro acc st' ⟨rfl, done, ps, g1, g2, g3, g4, rfl⟩
    rw [List.append_nil] at g1
    have ew : ws = ps.map Pt.t := by
      rw [← g2, ← g1, List.map_snd_zip (by omega)]
    have ecs : done.map (·.1) = cs := by rw [← g1, List.map_fst_zip (by omega)]
    rw [ecs] at g4
    have R : RowG m tab t w ps := ⟨by rw [hs, ew], form, hf, by rw [ew, List.length_map] at hc; omega, by rw [hcs]; exact g4⟩
    have lp : ps.length ≤ 641 := by
      have := congrArg List.length ew
      rw [List.length_map] at this
      rw [List.length_cons] at hcount
      omega
    rw [dAdd_lst (by simp; omega), on_some, cTuple_lst, on_some, Sto.keepOnly_self]
    exact h1 w ps R
  · rintro ⟨c, y⟩ rest acc st' N ⟨rfl, done, ps, g1, g2, g3, g4, rfl⟩ hN
    have hmem : (c, y) ∈ cs.zip ws := by rw [g1]; simp
    have hc1 : c ∈ cs := (List.of_mem_zip hmem).1
    have hy1 : y ∈ ws := (List.of_mem_zip hmem).2
    simp
    refine part (t3 c hc1) (Nat.le_trans (shorts y (List.mem_cons_of_mem _ hy1)) hl) (fun p hp he => ?_) (fun hp => ?_)
    · refine hN _ _ ⟨rfl, done ++ [(c, y)], ps ++ [p], by rw [g1]; simp, by rw [List.map_append, List.map_append, g2, ← he]; rfl, by simp [g3], ?_, by simp⟩
      intro z hz
      rw [List.map_append, List.zip_append (by rw [List.length_map]; exact g3)] at hz
      rcases List.mem_append.mp hz with hz | hz
      · exact g4 z hz
      · have : z = (c, p) := by simpa using hz
        rw [this]
        exact hp
    · rw [e0]
      refine h2 fun w' ps' ⟨r1, form', r2, r3, r4⟩ => ?_
      rw [hs] at r1
      injection r1 with r1 r5
      rw [← r1, hf] at r2
      cases r2
      rw [hcs] at r4
      rw [zip_same (cs := cs) r5] at hmem
      obtain ⟨z, hz, e⟩ := List.mem_map.mp hmem
      injection e with e1 e2
      have := r4 z hz
      rw [e1] at this
      exact hp z.2 this e2
def nline : Str := Str.ofString "\n"
theorem nline_tl : TL.tl nline = [10] := by decide +kernel
/-- a log that a text writes -/
def LogG (m : Int) (t : Str) (rs : List Rw2) : Prop := (t = Str.ofString "-" ∧ rs = []) ∨ (t ≠ Str.ofString "-" ∧ (Txt.split t nline).length = rs.length ∧ ∀ q ∈ (Txt.split t nline).zip rs, RowG m T_etexts q.1 q.2.1 q.2.2)
theorem ap_read_log_G {t : Str} (hm : m ≤ 60) (hl : t.length ≤ 1000000) (hln : ∀ y ∈ Txt.split t nline, y.length ≤ 640) (h1 : ∀ rs, LogG m t rs → Q (.tup (rs.map Rw2.d)) st) (h2 : (∀ rs, ¬ LogG m t rs) → X (Str.ofString "NoText") st) : F_read_logX [.int m, .str t] st X Q := by
  have sz := sizeLine_eq
  have row : ∀ {t : Str} {q : Addr} {st : Sto} {X : PoX} {Q : PoE}, t.length ≤ 640 → st q = some (.dk (encT D.str T_etexts)) → (∀ w ps, RowG m T_etexts t w ps → Q (Rw2.d (w, ps)) st) → ((∀ w ps, ¬ RowG m T_etexts t w ps) → X (Str.ofString "NoText") st) → F_row_ofX [.int m, .ref q, .str t] st X Q := fun hl hd h1 h2 => ap_row_G hm etab_ok hd hl h1 h2
  simp only [F_read_logX, wDef_ap]
  generalize F_row_ofX = Fr at *
  refine ⟨rfl, ?_⟩
  rw [wSeq_ap]
  simp [-wSeq_ap]
  by_cases hd : t = Str.ofString "-"
  · rw [if_pos hd]
    exact h1 [] (.inl ⟨hd, rfl⟩)
  rw [if_neg hd]
  have sp : splitOk t nline := ⟨by decide +kernel, by omega, by decide +kernel⟩
  have ems : mSplit st (.str t) [.str (Str.ofString "\n")] = some (.lst ((Txt.split t nline).map D.str), st) := by
    unfold mSplit
    simp only
    rw [if_pos (show splitOk t (Str.ofString "\n") from sp)]
    rfl
  have shorts := spl_short sp
  rw [ems, on_some]
  simp only [sqOf_lst, on_some]
  have bad : ∀ y ∈ Txt.split t nline, (∀ w ps, ¬ RowG m T_etexts y w ps) → X (Str.ofString "NoText") st := fun y hy hn => h2 fun rs hr => by
    rcases hr with hr | ⟨_, r1, r2⟩
    · exact hd hr.1
    · obtain ⟨i, hi, rfl⟩ := List.mem_iff_getElem.mp hy
      have hz : i < ((Txt.split t nline).zip rs).length := by rw [List.length_zip, ← r1]; omega
      have := r2 _ (List.getElem_mem hz)
      rw [List.getElem_zip] at this
      exact hn _ _ this
  refine compLX_inv (enc := D.str) (fun acc rest st' => (∀ c, st c ≠ none → st' c = st c) ∧ ∃ (done : List Str) (rs : List Rw2), Txt.split t nline = done ++ rest ∧ done.length = rs.length ∧ (∀ q ∈ done.zip rs, RowG m T_etexts q.1 q.2.1 q.2.2) ∧ acc = rs.map Rw2.d) (fun _ _ _ _ => trivial) ?_ ?_ _ _ _ ⟨fun _ _ => rfl, [], [], rfl, rfl, fun _ h => (by cases h), rfl⟩
  · rintro acc st' ⟨hx, done, rs, g1, g2, g3, rfl⟩
    rw [List.append_nil] at g1
    rw [keep_ex hx]
    exact h1 rs (.inr ⟨hd, by rw [g1]; exact g2, by rw [g1]; exact g3⟩)
  · rintro y rest acc st' N ⟨hx, done, rs, g1, g2, g3, rfl⟩ hN
    have hy : y ∈ Txt.split t nline := by rw [g1]; simp
    simp
    intro q hq0
    have hx2 : ∀ c, st c ≠ none → (st'.set q (.dk (dkS T_etexts))) c = st c := fun c hc => by
      rw [Sto.set_ne (fun z => hc (by have := hx c hc; rw [z, hq0] at this; rw [z]; exact this.symm))]
      exact hx c hc
    refine row (hln y hy) Sto.set_same (fun w ps R => ?_) (fun hn => ?_)
    · refine hN _ _ ⟨hx2, done ++ [y], rs ++ [(w, ps)], by rw [g1]; simp, by simp [g2], ?_, by simp⟩
      intro z hz
      rw [List.zip_append g2] at hz
      rcases List.mem_append.mp hz with hz | hz
      · exact g3 z hz
      · have : z = (y, (w, ps)) := by simpa using hz
        rw [this]
        exact R
    · rw [keep_ex hx2]
      exact bad y hy hn
end
end DL
namespace DL
open PySem PySem.Spec PyProof.Rows L2
end DL
namespace DL
open PySem PySem.Spec PyProof.Rows L2
theorem noText_1 {st : Sto} : cIsX Y_all st [.exc (Str.ofString "NoText"), .tup [.cls (Str.ofString "Busy"), .cls (Str.ofString "Down"), .cls (Str.ofString "NoClaim"), .cls (Str.ofString "NoDeed"), .cls (Str.ofString "NoLetter"), .cls (Str.ofString "NoRow"), .cls (Str.ofString "TooMany"), .cls (Str.ofString "Up")]] = some (.bl false) := by kernel_rfl
theorem noText_2 {st : Sto} : cIsX Y_all st [.exc (Str.ofString "NoText"), .cls (Str.ofString "NoText")] = some (.bl true) := by kernel_rfl
theorem noText_3 {st : Sto} : cIsX Y_all st [.exc (Str.ofString "NoText"), .ty "ValueError"] = some (.bl true) := by kernel_rfl
theorem pl_pt {p : Pt} {n : Nat} : pl (n + 2) p.d = true := by
  cases p with
  | num n => simp [Pt.d]
  | nam x => simp [Pt.d]
  | sid l =>
    simp [Pt.d]
    exact plL_map fun _ _ => pl_int
theorem pl_rowD {w : Str} {ps : List Pt} {n : Nat} : pl (n + 4) (Rw2.d (w, ps)) = true := by
  unfold Rw2.d
  simp
  exact plL_map fun _ _ => pl_pt
theorem fitZ_inj {m : Int} : ∀ {cs : List Str} {ps ps' : List Pt}, cs.length = ps.length → cs.length = ps'.length → (∀ z ∈ ps.map Pt.t, z.length ≤ 640) → ps.map Pt.t = ps'.map Pt.t → (∀ q ∈ cs.zip ps, FitG m q.1 q.2) → (∀ q ∈ cs.zip ps', FitG m q.1 q.2) → ps = ps'
  | [], [], [], _, _, _, _, _, _ => rfl
  | [], _ :: _, _, h, _, _, _, _, _ => by simp at h
  | [], [], _ :: _, _, h, _, _, _, _ => by simp at h
  | _ :: _, [], _, h, _, _, _, _, _ => by simp at h
  | _ :: _, _ :: _, [], _, h, _, _, _, _ => by simp at h
  | c :: cs, p :: ps, p' :: ps', h1, h2, hl, e, f1, f2 => by
    simp only [List.map_cons, List.cons.injEq] at e
    rw [List.zip_cons_cons] at f1 f2
    have a := fitG_inj (w := p.t) (p := p) (p' := p') (c := c) (m := m) (hl _ (by simp)) (f1 (c, p) List.mem_cons_self) (f2 (c, p') List.mem_cons_self) rfl e.1.symm
    have b := fitZ_inj (cs := cs) (ps := ps) (ps' := ps') (by simpa using h1) (by simpa using h2) (fun z hz => hl z (List.mem_cons_of_mem _ hz)) e.2 (fun q hq => f1 q (List.mem_cons_of_mem _ hq)) fun q hq => f2 q (List.mem_cons_of_mem _ hq)
    rw [a, b]
theorem rowG_inj {m : Int} {tab : TabS} {t w w' : Str} {ps ps' : List Pt} (hl : t.length ≤ 640) (h : RowG m tab t w ps) (h' : RowG m tab t w' ps') : w = w' ∧ ps = ps' := by
  have sz := sizeLine_eq
  obtain ⟨r1, form, r2, r3, r4⟩ := h
  obtain ⟨s1, form', s2, s3, s4⟩ := h'
  have sp : splitOk t blank := ⟨by decide +kernel, by omega, by decide +kernel⟩
  have shorts := spl_short sp
  rw [r1] at s1 shorts
  injection s1 with e1 e2
  subst e1
  rw [r2] at s2
  cases s2
  exact ⟨rfl, fitZ_inj (by rw [List.length_map, ← TL.len_tl]; exact r3) (by rw [List.length_map, ← TL.len_tl]; exact s3) (fun z hz => Nat.le_trans (shorts z (List.mem_cons_of_mem _ hz)) hl) e2 r4 s4⟩
end DL
namespace DL
open PySem PySem.Spec PyProof.Rows L2
section
variable {st : Sto} {x y t : Str} {L A B : Nat}
theorem sl_to {i : Int} (h0 : 0 ≤ i) (hz : x.length ≤ 100000) : slD st (.str x) none (some i) = some (.str (txt ((TL.tl x).take i.toNat))) := by
  have sz := sizeLine_eq
  show (if x.length ≤ sizeLine then some (D.str (cutS x none (some i))) else none) = _
  rw [if_pos (by omega)]
  unfold cutS
  simp only [HT.sIx]
  rw [if_neg (by omega), List.drop_zero, Nat.sub_zero]
  congr 2
  unfold txt
  congr 1
  rw [TL.len_tl, Nat.min_def]
  split
  · rfl
  · show ((TL.tl x).take (TL.tl x).length).toArray = ((TL.tl x).take i.toNat).toArray
    rw [List.take_of_length_le (Nat.le_refl _), List.take_of_length_le (by omega)]
theorem sl_from {i : Int} (h0 : 0 ≤ i) (hz : x.length ≤ 100000) : slD st (.str x) (some i) none = some (.str (txt ((TL.tl x).drop i.toNat))) := by
  have sz := sizeLine_eq
  show (if x.length ≤ sizeLine then some (D.str (cutS x (some i) none)) else none) = _
  rw [if_pos (by omega)]
  unfold cutS
  simp only [HT.sIx]
  rw [if_neg (by omega)]
  congr 2
  unfold txt
  congr 1
  rw [TL.len_tl, Nat.min_def]
  show (((TL.tl x).drop _).take _).toArray = _
  split
  · rw [List.take_of_length_le (by rw [List.length_drop]; omega)]
  · rw [List.drop_of_length_le (Nat.le_refl _), List.drop_of_length_le (by omega)]
    simp
theorem sl_mid {i j : Int} (h0 : 0 ≤ i) (h1 : i ≤ j) (hz : x.length ≤ 100000) : slD st (.str x) (some i) (some j) = some (.str (txt (((TL.tl x).drop i.toNat).take (j.toNat - i.toNat)))) := by
  have sz := sizeLine_eq
  show (if x.length ≤ sizeLine then some (D.str (cutS x (some i) (some j))) else none) = _
  rw [if_pos (by omega)]
  unfold cutS
  simp only [HT.sIx]
  rw [if_neg (by omega), if_neg (by omega)]
  congr 2
  unfold txt
  congr 1
  rw [TL.len_tl]
  show (((TL.tl x).drop _).take _).toArray = _
  congr 1
  by_cases c : i.toNat ≤ (TL.tl x).length
  · rw [Nat.min_eq_left c]
    by_cases d : j.toNat ≤ (TL.tl x).length
    · rw [Nat.min_eq_left d]
    · rw [Nat.min_eq_right (by omega), List.take_of_length_le (by rw [List.length_drop]; omega), List.take_of_length_le (by rw [List.length_drop]; omega)]
  · rw [List.drop_of_length_le (l := TL.tl x) (i := i.toNat) (by omega), List.drop_of_length_le (l := TL.tl x) (by omega)]
    simp
theorem dAdd_strs (h : x.length + y.length ≤ 100000) : dAdd st (.str x) (.str y) = some (.str (x ++ y)) := by
  have sz := sizeLine_eq
  show (if x.length + y.length ≤ sizeLine then some (D.str (x ++ y)) else none) = _
  rw [if_pos (by omega)]
theorem len_app : (x ++ y).length = x.length + y.length := by rw [TL.len_tl, TL.len_tl x, TL.len_tl y, TL.tl_append, List.length_append]
/-- a text of L signs at most, all below 128 -/
def Bt (L : Nat) (t : Str) : Prop := t.length ≤ L ∧ asc t
instance : Decidable (Bt L t) := by unfold Bt; infer_instance
theorem Bt.mono (h : Bt A t) (hl : A ≤ B) : Bt B t := ⟨Nat.le_trans h.1 hl, h.2⟩
theorem Bt.sub {l : List Nat} (h : Bt L t) (hs : l.Sublist (TL.tl t)) : Bt L (txt l) := ⟨by rw [txt_len]; have := hs.length_le; have := h.1; rw [TL.len_tl] at this; omega, fun c hc => h.2 c (hs.subset hc)⟩
theorem Bt.to {n : Nat} (h : Bt L t) : Bt L (txt ((TL.tl t).take n)) := h.sub (List.take_sublist _ _)
theorem Bt.from {n : Nat} (h : Bt L t) : Bt L (txt ((TL.tl t).drop n)) := h.sub (List.drop_sublist _ _)
theorem Bt.mid {n k : Nat} (h : Bt L t) : Bt k (txt (((TL.tl t).drop n).take k)) :=
  ⟨by rw [txt_len, List.length_take]; omega, fun c hc => h.2 c (List.mem_of_mem_drop (List.mem_of_mem_take hc))⟩
theorem Bt.cat (h : Bt A x) (g : Bt B y) : Bt (A + B) (x ++ y) := ⟨by rw [len_app]; have := h.1; have := g.1; omega, fun c hc => by
  rw [TL.tl_append] at hc
  rcases List.mem_append.mp hc with z | z
  · exact h.2 c z
  · exact g.2 c z⟩
theorem Bt.rev (h : Bt L t) : Bt L (revS t) := ⟨Nat.le_trans revS_len h.1, fun c hc => h.2 c (revS_mem hc)⟩
theorem Bt.repl (h : Bt L t) (hx : Bt A x) : Bt (L + A) (repl1 t y x) := ⟨Nat.le_trans repl1_len (by have := h.1; have := hx.1; omega), fun c hc => by
  rcases repl1_mem hc with z | z
  · exact h.2 c z
  · exact hx.2 c z⟩
def J (ws : List Str) : Nat := (ws.map fun w => w.length + 1).sum
theorem J_nil : J [] = 0 := rfl
theorem J_cons {ws : List Str} : J (x :: ws) = x.length + 1 + J ws := by unfold J; rw [List.map_cons, List.sum_cons]
theorem J_app {us vs : List Str} : J (us ++ vs) = J us + J vs := by unfold J; rw [List.map_append, List.sum_append]
theorem J_sub : ∀ {us vs : List Str}, us.Sublist vs → J us ≤ J vs
  | _, _, .slnil => Nat.le_refl _
  | _, _, .cons a h => by rw [J_cons]; have := J_sub h; omega
  | _, _, .cons_cons a h => by rw [J_cons, J_cons]; have := J_sub h; omega
theorem J_join {s : Str} (hs : s.length = 1) : ∀ {ws : List Str}, (Txt.join s ws).length ≤ J ws := fun {ws} => by
  have key : ∀ {ls : List (List Nat)} {S : List Nat}, S.length = 1 → (TL.joinL S ls).length ≤ (ls.map fun l => l.length + 1).sum := fun {ls S} hS => by
    induction ls with
    | nil => exact Nat.le_refl _
    | cons l ls ih =>
      cases ls with
      | nil =>
        show l.length ≤ _
        simp
      | cons k ls =>
        show (l ++ (S ++ TL.joinL S (k :: ls))).length ≤ _
        rw [List.length_append, List.length_append, hS, List.map_cons, List.sum_cons]
        omega
  have := key (ls := ws.map TL.tl) (S := TL.tl s) (by rw [← TL.len_tl]; exact hs)
  rw [TL.len_tl, join_tl]
  refine Nat.le_trans this ?_
  unfold J
  rw [List.map_map]
  refine Nat.le_of_eq ?_
  exact congrArg List.sum (List.map_congr_left fun w _ => congrArg (· + 1) (TL.len_tl w).symm)
theorem join_asc {s : Str} {ws : List Str} (hs : asc s) (h : ∀ w ∈ ws, asc w) : asc (Txt.join s ws) := fun c hc => by
  rw [join_tl] at hc
  rcases mem_joinL hc with z | ⟨p, hp, z⟩
  · exact hs c z
  · obtain ⟨w, hw, rfl⟩ := List.mem_map.mp hp
    exact h w hw c z
theorem split_asc {s : Str} (hs : splitOk t s) (h : asc t) : ∀ w ∈ Txt.split t s, asc w := fun w hw c hc => by
  have h1 : TL.tl w ∈ TL.spl (TL.tl s) 0 [] (TL.tl t) := by rw [← split_tl hs]; exact List.mem_map_of_mem hw
  rcases spl_mem _ _ _ _ _ h1 c hc with z | z
  · cases z
  · exact h c z
theorem J_joinL {S : List Nat} (hS : S.length = 1) : ∀ {ls : List (List Nat)}, ls ≠ [] → (TL.joinL S ls).length + 1 = (ls.map fun l => l.length + 1).sum
  | [], h => absurd rfl h
  | [l], _ => by
    show l.length + 1 = _
    simp
  | l :: k :: ls, _ => by
    have ih := J_joinL (ls := k :: ls) hS (by simp)
    show (l ++ (S ++ TL.joinL S (k :: ls))).length + 1 = _
    rw [List.length_append, List.length_append, hS, List.map_cons, List.sum_cons]
    omega
theorem J_split {s : Str} {n : Nat} (hs : splitOk t s) (es : TL.tl s = [n]) : J (Txt.split t s) = t.length + 1 := by
  have h1 := J_joinL (S := [n]) rfl (spl_ne [n] (TL.tl t) 0 [])
  rw [join_spl, List.nil_append] at h1
  unfold J
  have h2 := split_tl hs
  rw [es] at h2
  rw [← h2, List.map_map] at h1
  rw [TL.len_tl t, h1]
  exact congrArg List.sum (List.map_congr_left fun w _ => congrArg (· + 1) (TL.len_tl w))
theorem J_mem {ws : List Str} (h : x ∈ ws) : x.length + 1 ≤ J ws := by
  induction ws with
  | nil => cases h
  | cons w ws ih =>
    rw [J_cons]
    rcases List.mem_cons.mp h with rfl | h
    · omega
    · have := ih h
      omega
theorem J_len {ws : List Str} : ws.length ≤ J ws := by
  induction ws with
  | nil => exact Nat.le_refl _
  | cons w ws ih =>
    rw [J_cons, List.length_cons]
    omega
/-- ' '.join of words -/
theorem join_J {s : Str} {ws : List Str} (hs : s.length = 1) (h : J ws ≤ 100000) : mJoin st (.str s) [.lst (ws.map D.str)] = some (.str (Txt.join s ws), st) := by
  have key : ∀ ws : List Str, (ws.map (·.length)).sum + ws.length = J ws := fun ws => by
    induction ws with
    | nil => rfl
    | cons w ws ih =>
      rw [J_cons, List.map_cons, List.sum_cons, List.length_cons]
      omega
  have := key ws
  unfold mJoin
  simp only
  rw [sqOf_lst, Option.bind_some, strsOf_map, Option.bind_some, hs, if_pos (by omega)]
end
end DL
namespace DL
open PySem PySem.Spec PyProof.Rows L2
section
variable {st : Sto} {x y t : Str} {L A B : Nat}
theorem txt_tl : txt (TL.tl x) = x := TL.ext_tl rfl
theorem ix_str {i : Int} (h0 : 0 ≤ i) (h1 : i < x.length) (hz : x.length ≤ 10000) : ∃ c ∈ TL.tl x, ∀ st, ixD st (.str x) (.int i) = some (.str (txt [c])) := by
  rw [TL.len_tl] at h1 hz
  obtain ⟨c, hc, e⟩ := ixD_txt (st := fun _ => none) h0 h1 hz
  rw [txt_tl] at e
  exact ⟨c, hc, fun _ => e⟩
theorem take_map {ws : List Str} {n : Nat} : (ws.map D.str).take n = (ws.take n).map D.str := List.map_take.symm
theorem drop_map {ws : List Str} {n : Nat} : (ws.map D.str).drop n = (ws.drop n).map D.str := List.map_drop.symm
theorem bt_one {S : Str} {c : Nat} (h : asc S) (hc : c ∈ TL.tl S) : Bt 1 (txt [c]) := ⟨by rw [txt_len]; simp, fun d hd => by
  have : d = c := List.mem_singleton.mp hd
  rw [this]
  exact h c hc⟩
/-- words put together -/
theorem bt_words {us : List Str} (hs : ∀ w ∈ us, asc w) (hJ : J us ≤ B) : Bt B (Txt.join blank us) :=
  ⟨Nat.le_trans (J_join (by decide +kernel)) hJ, join_asc (by decide +kernel) hs⟩
end
end DL
namespace DL
open PySem PySem.Spec PyProof.Rows L2
theorem pt_bt {m : Int} {c : Str} {p : Pt} (m7 : m ≤ 7) (h : fits m c p) : Bt 31 p.t := by
  refine ⟨?_, fun d hd => ?_⟩
  · cases p with
    | nam x =>
      have := nameOk_8 h.2
      show x.length ≤ 31
      omega
    | num n => exact numT_len (by omega) h.1
    | sid l =>
      show (Txt.join comma (l.map numT)).length ≤ 31
      refine Nat.le_trans (J_join (by decide +kernel)) ?_
      have hl : l.length ≤ 6 := by
        have := h.2.1.2.2.1
        rw [List.length_map] at this
        omega
      have key : ∀ l : List Nat, (∀ n ∈ l, (n : Int) < m) → J (l.map numT) ≤ 2 * l.length := fun l => by
        induction l with
        | nil => intro _; exact Nat.le_refl _
        | cons n l ih =>
          intro h
          rw [List.map_cons, J_cons, List.length_cons]
          have h1 := h n List.mem_cons_self
          have h2 : (numT n).length ≤ 1 := numT_len (by omega) (by omega)
          have := ih fun z hz => h z (List.mem_cons_of_mem _ hz)
          omega
      have := key l fun n hn => (h.2.1.1 n (List.mem_map_of_mem (f := fun (n : Nat) => (n : Int)) hn)).2
      omega
  · have := fits_ok h
    rcases Nat.lt_or_ge d 128 with z | z
    · exact z
    · exact absurd hd (pt_free this (.inr (by omega)))
theorem fitsL_bt {m : Int} (m7 : m ≤ 7) : ∀ {cs : List Str} {ps : List Pt}, cs.length = ps.length → (∀ q ∈ cs.zip ps, fits m q.1 q.2) → ∀ p ∈ ps, Bt 31 p.t
  | [], [], _, _, p, hp => nomatch hp
  | [], _ :: _, h, _, _, _ => by simp at h
  | _ :: _, [], h, _, _, _ => by simp at h
  | c :: cs, q :: ps, h, f, p, hp => by
    rw [List.zip_cons_cons] at f
    rcases List.mem_cons.mp hp with rfl | hp
    · exact pt_bt m7 (f (c, p) List.mem_cons_self)
    · exact fitsL_bt m7 (cs := cs) (ps := ps) (by simpa using h) (fun q hq => f q (List.mem_cons_of_mem _ hq)) p hp
theorem J_le {k : Nat} : ∀ {ws : List Str}, (∀ w ∈ ws, w.length ≤ k) → J ws ≤ ws.length * (k + 1)
  | [], _ => Nat.zero_le _
  | w :: ws, h => by
    rw [J_cons, List.length_cons, Nat.succ_mul]
    have := h w List.mem_cons_self
    have := J_le (ws := ws) fun z hz => h z (List.mem_cons_of_mem _ hz)
    omega
theorem name_bt {x : Str} (h : nameOk x = true) : Bt 8 x := ⟨(nameOk_8 h).2, fun c hc => by have := nameOk_low h c hc; omega⟩
theorem row_bt {m : Int} {tab : TabS} {w : Str} {ps : List Pt} {k : Nat} (m7 : m ≤ 7) (hk : ∀ q ∈ tab, q.2.length ≤ k) (h : RowIn m tab w ps) : Bt (9 + 32 * k) (rowT (.nam w :: ps)) := by
  obtain ⟨h1, h2, form, h3, h4, h5, h6⟩ := h
  have hf : ps.length ≤ k := by rw [← h5]; exact hk _ (getT_in h3)
  have hp := fitsL_bt m7 (cs := (TL.tl form).map fun c => (⟨#[c]⟩ : Str)) (by rw [List.length_map, ← TL.len_tl]; exact h5) h6
  have hw := name_bt h1
  unfold rowT
  refine bt_words (fun x hx => ?_) ?_
  · obtain ⟨p, hp', rfl⟩ := List.mem_map.mp hx
    rcases List.mem_cons.mp hp' with rfl | hp'
    · exact hw.2
    · exact (hp p hp').2
  · rw [List.map_cons, J_cons]
    have := J_le (ws := ps.map Pt.t) (k := 31) fun x hx => by
      obtain ⟨p, hp', rfl⟩ := List.mem_map.mp hx
      exact (hp p hp').1
    rw [List.length_map] at this
    have := hw.1
    show w.length + 1 + _ ≤ _
    have : ps.length * (31 + 1) ≤ k * (31 + 1) := Nat.mul_le_mul_right _ hf
    omega
theorem drow_bt {m : Int} {w : Str} {ps : List Pt} (m7 : m ≤ 7) (h : RowIn m T_dtexts w ps) : Bt 105 (rowT (.nam w :: ps)) := row_bt (k := 3) m7 (by decide +kernel) h
theorem erow_bt {m : Int} {w : Str} {ps : List Pt} (m7 : m ≤ 7) (h : RowIn m T_etexts w ps) : Bt 137 (rowT (.nam w :: ps)) := row_bt (k := 4) m7 (by decide +kernel) h
end DL
namespace DL
open PySem PySem.Spec PyProof.Rows L2
/-- no stretch without a new line is longer than K -/
def Sg (K : Nat) (l : List Nat) : Prop := ∀ v, v <:+: l → 10 ∉ v → v.length ≤ K
section
variable {K A B : Nat} {x y l : List Nat}
theorem Sg.sub (h : Sg K l) (hs : x <:+: l) : Sg K x := fun v hv hn => h v (hv.trans hs) hn
theorem Sg.mono (h : Sg A l) (hk : A ≤ B) : Sg B l := fun v hv hn => Nat.le_trans (h v hv hn) hk
theorem Sg.len (h : l.length ≤ K) : Sg K l := fun v hv _ => Nat.le_trans hv.length_le h
theorem Sg.take {n : Nat} (h : Sg K l) : Sg K (l.take n) := h.sub (List.take_prefix _ _).isInfix
theorem Sg.drop {n : Nat} (h : Sg K l) : Sg K (l.drop n) := h.sub (List.drop_suffix _ _).isInfix
theorem infix_cat {v : List Nat} (h : v <:+: x ++ y) : ∃ v1 v2, v = v1 ++ v2 ∧ v1 <:+: x ∧ v2 <:+: y := by
  obtain ⟨s, t, e⟩ := h
  rw [List.append_assoc] at e
  rcases List.append_eq_append_iff.mp e with ⟨a, e1, e2⟩ | ⟨c, e1, e2⟩
  · rcases List.append_eq_append_iff.mp e2 with ⟨b, e3, e4⟩ | ⟨d, e3, e4⟩
    · exact ⟨v, [], by simp, ⟨s, b, by rw [e1, e3, List.append_assoc]⟩, ⟨[], y, by simp⟩⟩
    · exact ⟨a, d, e3, ⟨s, [], by rw [e1]; simp⟩, ⟨[], t, by rw [e4]; simp⟩⟩
  · exact ⟨[], v, by simp, ⟨[], x, by simp⟩, ⟨c, t, by rw [e2, List.append_assoc]⟩⟩
theorem Sg.cat (h : Sg A x) (g : Sg B y) : Sg (A + B) (x ++ y) := fun v hv hn => by
  obtain ⟨v1, v2, rfl, h1, h2⟩ := infix_cat hv
  rw [List.mem_append, not_or] at hn
  have := h v1 h1 hn.1
  have := g v2 h2 hn.2
  rw [List.length_append]
  omega
theorem infix_nl {v : List Nat} (h : v <:+: x ++ 10 :: y) (hn : 10 ∉ v) : v <:+: x ∨ v <:+: y := by
  obtain ⟨s, t, e⟩ := h
  rw [List.append_assoc] at e
  rcases List.append_eq_append_iff.mp e with ⟨a, e1, e2⟩ | ⟨c, e1, e2⟩
  · rcases List.append_eq_append_iff.mp e2 with ⟨b, e3, e4⟩ | ⟨d, e3, e4⟩
    · exact .inl ⟨s, b, by rw [e1, e3, List.append_assoc]⟩
    · cases d with
      | nil => exact .inl ⟨s, [], by rw [e1, e3]; simp⟩
      | cons c d =>
        injection e4 with e4 e5
        exact absurd (by rw [e3, ← e4]; simp) hn
  · cases c with
    | nil =>
      cases v with
      | nil => exact .inl ⟨[], x, by simp⟩
      | cons c v =>
        injection e2 with e2 e3
        exact absurd (by rw [e2]; simp) hn
    | cons d c =>
      injection e2 with e2 e3
      exact .inr ⟨c, t, by rw [e3, List.append_assoc]; rfl⟩
theorem Sg.join : ∀ {ls : List (List Nat)}, (∀ l ∈ ls, Sg K l) → Sg K (TL.joinL [10] ls)
  | [], _ => Sg.len (Nat.zero_le _)
  | [l], h => h l List.mem_cons_self
  | l :: k :: ls, h => fun v hv hn => by
    have hv : v <:+: l ++ 10 :: TL.joinL [10] (k :: ls) := hv
    rcases infix_nl hv hn with hv | hv
    · exact h l List.mem_cons_self v hv hn
    · exact Sg.join (ls := k :: ls) (fun z hz => h z (List.mem_cons_of_mem _ hz)) v hv hn
theorem spl_infix : ∀ (l acc : List Nat), 10 ∉ acc → ∀ p ∈ TL.spl [10] 0 acc l, p <:+: acc ++ l ∧ 10 ∉ p
  | [], acc, hn, p, hp => by
    rw [TL.spl_nil, List.mem_singleton] at hp
    subst hp
    exact ⟨⟨[], [], by simp⟩, hn⟩
  | c :: r, acc, hn, p, hp => by
    cases hh : TL.pre [10] (c :: r) with
    | true =>
      rw [TL.spl_hit hh] at hp
      rcases List.mem_cons.mp hp with rfl | hp
      · exact ⟨⟨[], c :: r, by simp⟩, hn⟩
      · obtain ⟨h1, h2⟩ := spl_infix r [] (by simp) p hp
        exact ⟨h1.trans ⟨acc ++ [c], [], by simp⟩, h2⟩
    | false =>
      have hc : c ≠ 10 := fun z => by
        subst z
        have : ([10] == [10]) = false := hh
        cases this
      rw [TL.spl_miss hh] at hp
      obtain ⟨h1, h2⟩ := spl_infix r (acc ++ [c]) (by simp; exact ⟨hn, fun z => hc z.symm⟩) p hp
      exact ⟨by rw [List.append_assoc] at h1; exact h1, h2⟩
theorem Sg.lines {t : Str} (h : Sg K (TL.tl t)) (hs : splitOk t nline) : ∀ w ∈ Txt.split t nline, w.length ≤ K := fun w hw => by
  have h1 : TL.tl w ∈ TL.spl (TL.tl nline) 0 [] (TL.tl t) := by rw [← split_tl hs]; exact List.mem_map_of_mem hw
  rw [nline_tl] at h1
  obtain ⟨g1, g2⟩ := spl_infix _ [] (by simp) _ h1
  rw [TL.len_tl]
  exact h _ g1 g2
open PySem.Builtin PySem.Builtin.Str in
theorem Sg.repl {t u v : Str} (h : Sg K (TL.tl t)) : Sg (K + v.length + K) (TL.tl (repl1 t u v)) := by
  unfold repl1
  split
  · exact h.mono (by omega)
  · rename_i hc
    have h1 := PySem.StrLaws.occ_length_le t u 0 t.length 1
    have h2 : occurrences t u 0 t.length 1 ≠ [] := fun z => by rw [z] at hc; simp at hc
    obtain ⟨d, hd⟩ : ∃ d, occurrences t u 0 t.length 1 = [d] := by
      match ho : occurrences t u 0 t.length 1 with
      | [] => exact absurd ho h2
      | [d] => exact ⟨d, rfl⟩
      | d :: e :: r => rw [ho] at h1; simp at h1
    rw [hd, PySem.StrLaws.glued_eq_join, TL.tl_join, PySem.StrLaws.partsBetween_eq]
    show Sg _ (TL.tl (strSub t 0 d) ++ (TL.tl v ++ TL.tl (strSub t (d + u.length) t.length)))
    have hsub : ∀ i j, Sg K (TL.tl (strSub t i j)) := fun i j => by
      rw [TL.tl_strSub]
      exact (h.drop).take
    rw [← List.append_assoc]
    exact ((hsub _ _).cat (Sg.len (by rw [TL.len_tl]; exact Nat.le_refl _))).cat (hsub _ _)
end
end DL
namespace Wk49
open PySem PySem.Spec PyProof.Rows L2 DL
section functions
def F__law_part : WF := wDef 6 3 true (wSeq (wIfS (wTB (wBin dEq (wVar 0) (wC (.str "name")))) (wSeq (wSet 4 (wC (.str "abcdefghijklmnopqrstuvwxyz"))) (wRet (wBin ixD (wLst (wCons (wC .non) (wCons (wVar 1) wNil))) (wCall cInt (wCons (wAnd (wChain dLt dLt (wC (.int 0)) (wCall cLen (wCons (wVar 1) wNil)) (wC (.int 9))) (wBin dEq (wComp (wiStr (wVar 1)) (.nm 5) (wTB (wBin dNotIn (wVar 5) (wVar 4))) (wVar 5) [5]) (wLst wNil))) wNil))))) wSkip) (wSeq (wIfS (wTOr (wTB (wBin dEq (wVar 1) (wC (.str "")))) (wTOr (wTB (wBin dNe (wComp (wiStr (wVar 1)) (.nm 5) (wTB (wBin dNotIn (wVar 5) (wC (.str "0123456789")))) (wVar 5) [5]) (wLst wNil))) (wTAnd (wTB (wBin dEq (wBin ixD (wVar 1) (wC (.int 0))) (wC (.str "0")))) (wTB (wBin dNe (wVar 1) (wC (.str "0"))))))) (wRet (wC .non)) wSkip) (wSeq (wSet 3 (wCall cIntT (wCons (wVar 1) wNil))) (wSeq (wIfS (wTOr (wTAnd (wTB (wBin dEq (wVar 0) (wC (.str "house")))) (wTB (wBin dGe (wVar 3) (wVar 2)))) (wTAnd (wTB (wBin dEq (wVar 0) (wC (.str "number")))) (wTB (wBin dLt (wVar 3) (wC (.int 1)))))) (wRet (wC .non)) wSkip) (wRet (wVar 3))))))
def F__law_entry_o : WF := wDef 7 2 true (wSeq (wSet 2 (wDisp (wCons (wC (.str "ask")) (wCons (wLst (wCons (wC (.str "name")) (wCons (wC (.str "number")) (wCons (wC (.str "name")) (wCons (wC (.str "number")) wNil))))) (wCons (wC (.str "got")) (wCons (wLst (wCons (wC (.str "name")) (wCons (wC (.str "number")) (wCons (wC (.str "house")) (wCons (wC (.str "number")) wNil))))) wNil)))))) (wSeq (wPut (wVar 2) (wC (.str "no")) (wLst (wCons (wC (.str "name")) (wCons (wC (.str "number")) (wCons (wC (.str "house")) wNil))))) (wSeq (wPut (wVar 2) (wC (.str "back")) (wLst (wCons (wC (.str "name")) (wCons (wC (.str "number")) wNil)))) (wSeq (wPut (wVar 2) (wC (.str "word")) (wLst (wCons (wC (.str "name")) (wCons (wC (.str "house")) (wCons (wC (.str "number")) (wCons (wC (.str "number")) wNil)))))) (wSeq (wPut (wVar 2) (wC (.str "free")) (wLst (wCons (wC (.str "name")) (wCons (wC (.str "house")) (wCons (wC (.str "number")) wNil))))) (wSeq (wSet 3 (wMeth "str" mSplit (wVar 0) (wCons (wC (.str " ")) wNil))) (wSeq (wIfS (wTOr (wTB (wBin dNotIn (wBin ixD (wVar 3) (wC (.int 0))) (wVar 2))) (wTB (wBin dNe (wCall cLen (wCons (wVar 3) wNil)) (wBin dAdd (wC (.int 1)) (wCall cLen (wCons (wBin ixD (wVar 2) (wBin ixD (wVar 3) (wC (.int 0)))) wNil)))))) (wRet (wC .non)) wSkip) (wSeq (wSet 4 (wComp (wiZip (wCons (wBin ixD (wVar 2) (wBin ixD (wVar 3) (wC (.int 0)))) (wCons (wSl (wVar 3) (wPart (wC (.int 1))) wNo) wNil))) (.tp [(.nm 5), (.nm 6)]) wYes (wFn F__law_part (wCons (wVar 5) (wCons (wVar 6) (wCons (wVar 1) wNil)))) [5, 6])) (wSeq (wIfS (wTB (wBin dIn (wC .non) (wVar 4))) (wRet (wC .non)) wSkip) (wRet (wCall cTuple (wCons (wBin dAdd (wSl (wVar 3) wNo (wPart (wC (.int 1)))) (wVar 4)) wNil))))))))))))
def F__law_read : WF := wDef 4 2 true (wSeq (wIfS (wTB (wBin dEq (wVar 0) (wC (.str "-")))) (wRet (wTup wNil)) wSkip) (wSeq (wSet 2 (wComp (wiSeq (wMeth "str" mSplit (wVar 0) (wCons (wC (.str "\n")) wNil))) (.nm 3) wYes (wFn F__law_entry_o (wCons (wVar 3) (wCons (wVar 1) wNil))) [3])) (wSeq (wIfS (wTB (wBin dIn (wC .non) (wVar 2))) (wRet (wC .non)) wSkip) (wRet (wCall cTuple (wCons (wVar 2) wNil))))))
def F__law_line_bent : WF := wDef 7 2 true (wSeq (wSet 2 (wFn F__law_pull (wCons (wVar 0) (wCons (wCall cLen (wCons (wVar 1) wNil)) wNil)))) (wSeq (wSet 3 (wMeth "str" mSplit (wBin ixD (wVar 1) (wVar 2)) (wCons (wC (.str " ")) wNil))) (wSeq (wSet 4 (wFn F__law_pull (wCons (wVar 0) (wCons (wCall cLen (wCons (wVar 3) wNil)) wNil)))) (wSeq (wSet 5 (wLst (wCons (wC (.str "ask")) (wCons (wC (.str "got")) (wCons (wC (.str "no")) (wCons (wC (.str "back")) (wCons (wC (.str "word")) (wCons (wC (.str "free")) (wCons (wC (.str "0")) (wCons (wC (.str "1")) (wCons (wC (.str "6")) (wCons (wC (.str "7")) (wCons (wC (.str "ab")) (wCons (wC (.str "")) (wCons (wC (.str "00")) (wCons (wC (.str "01")) (wCons (wC (.str "-")) (wCons (wC (.str "claim")) wNil)))))))))))))))))) (wSeq (wSet 6 (wFn F__law_pull (wCons (wVar 0) (wCons (wC (.int 8)) wNil)))) (wSeq (wIfS (wTB (wBin dEq (wVar 6) (wC (.int 0)))) (wRet (wBin dAdd (wSl (wVar 1) wNo (wPart (wVar 2))) (wSl (wVar 1) (wPart (wBin dAdd (wVar 2) (wC (.int 1)))) wNo))) wSkip) (wSeq (wIfS (wTB (wBin dEq (wVar 6) (wC (.int 1)))) (wRet (wBin dAdd (wSl (wVar 1) wNo (wPart (wBin dAdd (wVar 2) (wC (.int 1))))) (wSl (wVar 1) (wPart (wVar 2)) wNo))) wSkip) (wSeq (wIfS (wTB (wBin dEq (wVar 6) (wC (.int 2)))) (wRet (wUn dRev (wVar 1))) wSkip) (wSeq (wIfS (wTB (wBin dEq (wVar 6) (wC (.int 3)))) (wSet 3 (wBin dAdd (wSl (wVar 3) wNo (wPart (wVar 4))) (wSl (wVar 3) (wPart (wBin dAdd (wVar 4) (wC (.int 1)))) wNo))) (wIfS (wTB (wBin dEq (wVar 6) (wC (.int 4)))) (wSet 3 (wBin dAdd (wSl (wVar 3) wNo (wPart (wBin dAdd (wVar 4) (wC (.int 1))))) (wSl (wVar 3) (wPart (wVar 4)) wNo))) (wIfS (wTB (wBin dEq (wVar 6) (wC (.int 5)))) (wSet 3 (wBin dAdd (wBin dAdd (wSl (wVar 3) wNo (wPart (wVar 4))) (wLst (wCons (wBin dAdd (wC (.str "0")) (wBin ixD (wVar 3) (wVar 4))) wNil))) (wSl (wVar 3) (wPart (wBin dAdd (wVar 4) (wC (.int 1)))) wNo))) (wSet 3 (wBin dAdd (wBin dAdd (wSl (wVar 3) wNo (wPart (wVar 4))) (wLst (wCons (wBin ixD (wVar 5) (wFn F__law_pull (wCons (wVar 0) (wCons (wC (.int 16)) wNil)))) wNil))) (wSl (wVar 3) (wPart (wBin dAdd (wVar 4) (wC (.int 1)))) wNo)))))) (wRet (wBin dAdd (wBin dAdd (wSl (wVar 1) wNo (wPart (wVar 2))) (wLst (wCons (wMeth "str" mJoin (wC (.str " ")) (wCons (wVar 3) wNil)) wNil))) (wSl (wVar 1) (wPart (wBin dAdd (wVar 2) (wC (.int 1)))) wNo))))))))))))
def F__law_bent : WF := wDef 6 2 true (wSeq (wSet 2 (wFn F__law_pull (wCons (wVar 0) (wCons (wBin dAdd (wCall cLen (wCons (wVar 1) wNil)) (wC (.int 1))) wNil)))) (wSeq (wSet 3 (wBin ixD (wLst (wCons (wC (.str " ")) (wCons (wC (.str "0")) (wCons (wC (.str "1")) (wCons (wC (.str "7")) (wCons (wC (.str "9")) (wCons (wC (.str ",")) (wCons (wC (.str "a")) (wCons (wC (.str "z")) (wCons (wC (.str "A")) (wCons (wC (.str "-")) (wCons (wC (.str "\n")) (wCons (wC (.str "+")) (wCons (wC (.str ".")) (wCons (wC (.str "_")) wNil))))))))))))))) (wFn F__law_pull (wCons (wVar 0) (wCons (wC (.int 14)) wNil))))) (wSeq (wIfS (wTB (wBin dEq (wFn F__law_pull (wCons (wVar 0) (wCons (wC (.int 2)) wNil))) (wC (.int 0)))) (wSeq (wSet 5 (wC (.str " !\"#$&'()*+,-./0123456789:;<=>?@ABCDEFGHIJKLMNOPQRSTUVWXYZ[\\]^_`"))) (wSeq (wSet 5 (wBin dAdd (wVar 5) (wC (.str "abcdefghijklmnopqrstuvwxyz{|}~\n")))) (wSet 3 (wBin ixD (wVar 5) (wFn F__law_pull (wCons (wVar 0) (wCons (wCall cLen (wCons (wVar 5) wNil)) wNil))))))) wSkip) (wSeq (wSet 4 (wFn F__law_pull (wCons (wVar 0) (wCons (wC (.int 8)) wNil)))) (wSeq (wIfS (wTB (wBin dEq (wVar 4) (wC (.int 0)))) (wRet (wBin dAdd (wSl (wVar 1) wNo (wPart (wVar 2))) (wSl (wVar 1) (wPart (wBin dAdd (wVar 2) (wC (.int 1)))) wNo))) wSkip) (wSeq (wIfS (wTB (wBin dLt (wVar 4) (wC (.int 3)))) (wRet (wBin dAdd (wBin dAdd (wSl (wVar 1) wNo (wPart (wVar 2))) (wVar 3)) (wSl (wVar 1) (wPart (wBin dSub (wBin dAdd (wVar 2) (wVar 4)) (wC (.int 1)))) wNo))) wSkip) (wSeq (wIfS (wTB (wBin dEq (wVar 4) (wC (.int 3)))) (wRet (wBin dAdd (wBin dAdd (wSl (wVar 1) wNo (wPart (wVar 2))) (wUn dRevS (wSl (wVar 1) (wPart (wVar 2)) (wPart (wBin dAdd (wVar 2) (wC (.int 2))))))) (wSl (wVar 1) (wPart (wBin dAdd (wVar 2) (wC (.int 2)))) wNo))) wSkip) (wSeq (wIfS (wTB (wBin dEq (wVar 4) (wC (.int 4)))) (wRet (wBin ixD (wLst (wCons (wBin dAdd (wC (.str "\n")) (wVar 1)) (wCons (wBin dAdd (wVar 1) (wC (.str "\n"))) (wCons (wBin dAdd (wVar 1) (wC (.str " "))) (wCons (wUn (dRepl1 " " "  ") (wVar 1)) (wCons (wBin dAdd (wVar 1) (wC (.str "\n-"))) wNil)))))) (wFn F__law_pull (wCons (wVar 0) (wCons (wC (.int 5)) wNil))))) wSkip) (wRet (wMeth "str" mJoin (wC (.str "\n")) (wCons (wFn F__law_line_bent (wCons (wVar 0) (wCons (wMeth "str" mSplit (wVar 1) (wCons (wC (.str "\n")) wNil)) wNil))) wNil)))))))))))
def F__law_right : WF := wDef 7 2 true (wSeq (wSet 2 (wFn F__law_read (wCons (wVar 0) (wCons (wVar 1) wNil)))) (wSeq (wSet 3 (wC .non)) (wSeq (wSet 4 (wC .non)) (wSeq (wTryAs Y_all "HouseError" 5 (wSet 3 (wFnT F_read_logX (wCons (wVar 1) (wCons (wVar 0) wNil)))) (wSet 4 (wVar 5))) (wSeq (wIfS (wTB (wBin dIsNot (wVar 2) (wC .non))) (wRet (wAnd (wBin dIs (wVar 4) (wC .non)) (wAnd (wBin dEq (wVar 3) (wVar 2)) (wCall cIsi (wCons (wVar 3) (wCons (wC (.ty "tuple")) wNil)))))) wSkip) (wSeq (wSet 6 (wCall (cIsX Y_all) (wCons (wVar 4) (wCons (wTup (wCons (wC (.cls "Busy")) (wCons (wC (.cls "Down")) (wCons (wC (.cls "NoClaim")) (wCons (wC (.cls "NoDeed")) (wCons (wC (.cls "NoLetter")) (wCons (wC (.cls "NoRow")) (wCons (wC (.cls "TooMany")) (wCons (wC (.cls "Up")) wNil))))))))) wNil)))) (wRet (wAnd (wCall (cIsX Y_all) (wCons (wVar 4) (wCons (wC (.cls "NoText")) wNil))) (wAnd (wCall (cIsX Y_all) (wCons (wVar 4) (wCons (wC (.ty "ValueError")) wNil))) (wNot (wVar 6)))))))))))
def F_law : WF := wDef 10 1 true (wSeq (wFor (wiSeq (wBin dAdd (wSl (wVar 0) wNo (wPart (wC (.int 10)))) (wLst (wCons (wCall cLen (wCons (wVar 0) wNil)) wNil)))) (.nm 1) (wSeq (wSet 2 (wFn F__law_pot (wCons (wVar 1) wNil))) (wSeq (wSet 3 (wBin dAdd (wC (.int 1)) (wFn F__law_pull (wCons (wVar 2) (wCons (wC (.int 7)) wNil))))) (wSeq (wFor (wiRange (wCons (wC (.int 8)) wNil)) (.nm 4) (wSeq (wSet 6 (wComp (wiRange (wCons (wFn F__law_pull (wCons (wVar 2) (wCons (wC (.int 6)) wNil))) wNil)) (.nm 8) wYes (wFn F__law_any_entry (wCons (wVar 2) (wCons (wVar 3) wNil))) [8])) (wSeq (wSet 7 (wMeth "str" mJoin (wC (.str "\n")) (wCons (wComp (wiSeq (wVar 6)) (.nm 9) wYes (wFn F__law_shown (wCons (wVar 9) wNil)) [9]) wNil))) (wSeq (wIfS (wTB (wBin dEq (wVar 6) (wLst wNil))) (wSet 7 (wC (.str "-"))) wSkip) (wSeq (wSet 7 (wFn F__law_bent (wCons (wVar 2) (wCons (wVar 7) wNil)))) (wIfS (wTOr (wTNot (wTT (wFn F__law_right (wCons (wVar 7) (wCons (wVar 3) wNil))))) (wTNot (wTT (wFn F__law_right (wCons (wFn F__law_bent (wCons (wVar 2) (wCons (wVar 7) wNil))) (wCons (wVar 3) wNil)))))) (wRet (wC (.bl false))) wSkip))))) [4, 6]) (wSeq (wSet 5 (wLstR (wCons (wC (.str "")) (wCons (wC (.str " ")) (wCons (wC (.str "--")) (wCons (wC (.str "- ")) (wCons (wC (.str "-\n")) (wCons (wC (.str "\n")) (wCons (wC (.str "-\n-")) (wCons (wC (.str "ask ab 0 joe 3")) (wCons (wC (.str "ask ab 1 joe 0")) (wCons (wC (.str "back ab 1\n")) (wCons (wC (.str "back ab")) wNil))))))))))))) (wSeq (wSet 5 (wAddR (wVar 5) (wLst (wCons (wC (.str "no ab 1 7")) (wCons (wC (.str "word ab 0 0 3")) (wCons (wC (.str "free ab 0 1\n\nfree ab 0 1")) (wCons (wC (.str "free ab 0 1\n-")) (wCons (wC (.str "got ab 1 00 3")) wNil)))))))) (wSeq (wSet 5 (wAddR (wVar 5) (wLst (wCons (wC (.str "back ab 1 ")) (wCons (wC (.str "Back ab 1")) (wCons (wC (.str "back abcdefghi 1")) (wCons (wC (.str "back ab +1")) wNil))))))) (wSeq (wDrop (wMeth "list" mAppend (wVar 5) (wCons (wFn F__law_shown (wCons (wFn F__law_any_deed (wCons (wVar 2) (wCons (wVar 3) wNil))) wNil)) wNil))) (wIfS (wTB (wBin dNe (wComp (wiSeq (wVar 5)) (.nm 7) (wTNot (wTT (wFn F__law_right (wCons (wVar 7) (wCons (wVar 3) wNil))))) (wVar 7) [7]) (wLst wNil))) (wRet (wC (.bl false))) wSkip)))))))) [1, 2, 3, 4, 5, 6]) (wRet (wC (.bl true))))
end functions
end Wk49
namespace Wk49
open PySem PySem.Spec PyProof.Rows L2 DL
section
variable {st st' : Sto} {X : PoX} {Q : PoE} {a : Addr} {r : List D} {b n : Nat} {m k : Int} {c w : Str}
def lname (c : Str) : Str := if c = Str.ofString "n" then Str.ofString "name" else if c = Str.ofString "k" then Str.ofString "number" else Str.ofString "house"
theorem intT_num {n : Nat} (hl : (numT n).length ≤ 640) : cIntT st [.str (numT n)] = some (.int n) := by
  unfold cIntT
  simp only
  rw [numT_int hl]
  simp only
  rw [if_pos hl]
theorem ap_part (hc : c = Str.ofString "n" ∨ c = Str.ofString "k" ∨ c = Str.ofString "h") (hl : w.length ≤ 640) (h1 : ∀ p, FitG m c p → p.t = w → Q p.d st) (h2 : (∀ p, FitG m c p → p.t ≠ w) → Q .non st) : F__law_part [.str (lname c), .str w, .int m] st X Q := by
  have sz := sizeLine_eq
  have h4 : w.length ≤ sizeLine := by omega
  have e0 : st.keepOnly st = st := Sto.keepOnly_self st
  have en : lname (Str.ofString "n") = Str.ofString "name" := by decide +kernel
  have ek : lname (Str.ofString "k") = Str.ofString "number" := by decide +kernel
  have eh : lname (Str.ofString "h") = Str.ofString "house" := by decide +kernel
  have n1 : ¬ Str.ofString "number" = Str.ofString "name" := by decide +kernel
  have n2 : ¬ Str.ofString "house" = Str.ofString "name" := by decide +kernel
  have n3 : ¬ Str.ofString "number" = Str.ofString "house" := by decide +kernel
  have n4 : ¬ Str.ofString "house" = Str.ofString "number" := by decide +kernel
  have dkh : ¬ Str.ofString "k" = Str.ofString "h" := by decide +kernel
  have dhk : ¬ Str.ofString "h" = Str.ofString "k" := by decide +kernel
  have dkp : ¬ Str.ofString "k" = Str.ofString "p" := by decide +kernel
  have dhp : ¬ Str.ofString "h" = Str.ofString "p" := by decide +kernel
  have dkn : ¬ Str.ofString "k" = Str.ofString "n" := by decide +kernel
  have dhn : ¬ Str.ofString "h" = Str.ofString "n" := by decide +kernel
  have dks : ¬ Str.ofString "k" = Str.ofString "s" := by decide +kernel
  have dhs : ¬ Str.ofString "h" = Str.ofString "s" := by decide +kernel
  have dnp : ¬ Str.ofString "n" = Str.ofString "p" := by decide +kernel
  have dns : ¬ Str.ofString "n" = Str.ofString "s" := by decide +kernel
  simp only [F__law_part, wDef_ap]
  refine ⟨rfl, ?_⟩
  rw [wSeq_ap]
  rcases hc with rfl | hc
  · rw [en]
    simp [-wSeq_ap]
    rw [wSeq_ap]
    simp [-wSeq_ap]
    rw [cLen_str h4]
    simp [-wSeq_ap]
    have hq : ∀ b : Bool, b = nameOk w → Q (if b = true then .str w else .non) st := fun b hb => by
      cases b with
      | true => exact h1 (.nam w) ⟨rfl, hb.symm⟩ rfl
      | false =>
        refine h2 fun p hf hp => ?_
        cases p with
        | nam y =>
          have hp : y = w := hp
          rw [← hp, hf.2] at hb
          cases hb
        | sid l => exact dns hf.1
        | num n =>
          rcases hf with z | z | z
          · exact dnp z
          · exact dkn z.1.symm
          · exact dhn z.1.symm
    unfold nameOk at hq
    by_cases h1 : 0 < w.length
    · rw [if_pos h1]
      by_cases h2 : (w.length : Int) < 9
      · rw [if_pos h2, if_pos h4, on_some]
        have h1' : 1 ≤ w.length := by omega
        have h2' : w.length ≤ 8 := by omega
        refine compL_imp (enc := fun c => D.str ⟨#[c]⟩) (fun c => [some (.str (Str.ofString "name")), some (.str w), some (.int m), none, some (.str (Str.ofString "abcdefghijklmnopqrstuvwxyz")), some (D.str ⟨#[c]⟩)]) (fun c => !decide (c ∈ (Str.ofString "abcdefghijklmnopqrstuvwxyz").cps.toList)) (fun c => D.str ⟨#[c]⟩) ?_ ?_ ?_ trivial ?_
        · simp
        · intro c hc Q hq
          have h8 : dNotIn st (.str ⟨#[c]⟩) (.str (Str.ofString "abcdefghijklmnopqrstuvwxyz")) = some (.bl (!decide (c ∈ (Str.ofString "abcdefghijklmnopqrstuvwxyz").cps.toList))) := rfl
          simp [h8]
          simpa using hq
        · intro c hc _ Q hq
          simpa using hq
        · rw [List.nil_append, dEq_lnil (plL_map fun _ _ => pl_str), on_some]
          have e9 : ((w.cps.toList.filter fun c => !decide (c ∈ (Str.ofString "abcdefghijklmnopqrstuvwxyz").cps.toList)).map fun c => D.str ⟨#[c]⟩).isEmpty = w.cps.toList.all fun c => decide (97 ≤ c) && decide (c ≤ 122) := by
            rw [Bool.eq_iff_iff, List.isEmpty_iff, List.map_eq_nil_iff, List.filter_eq_nil_iff, List.all_eq_true]
            refine forall_congr' fun c => imp_congr_right fun hc => ?_
            simp only [Bool.not_eq_true', decide_eq_false_iff_not, Decidable.not_not, Bool.and_eq_true, decide_eq_true_iff]
            exact ⟨letters_of c, fun h => letters_mem h.1 h.2⟩
          rw [e9, Sto.keepOnly_self]
          have hq := hq _ (by rw [decide_eq_true h1', decide_eq_true h2', Bool.true_and, Bool.true_and])
          generalize (w.cps.toList.all fun c => decide (97 ≤ c) && decide (c ≤ 122)) = b at *
          cases b <;> simpa [cInt] using hq
      · rw [if_neg h2, if_neg h2]
        have : ¬ w.length ≤ 8 := by omega
        have hq := hq false (by rw [decide_eq_false this]; simp)
        simpa using hq
    · rw [if_neg h1]
      have : ¬ 1 ≤ w.length := by omega
      exact hq false (by rw [decide_eq_false this]; simp)
  · have nn : ¬ lname c = Str.ofString "name" := by rcases hc with rfl | rfl <;> decide +kernel
    have none_ : (∀ n, w ≠ numT n) → Q .non st := fun hn => h2 fun p hf hp => by
      cases p with
      | nam y => rcases hc with rfl | rfl <;> first | exact dkn hf.1 | exact dhn hf.1
      | sid l => rcases hc with rfl | rfl <;> first | exact dks hf.1 | exact dhs hf.1
      | num n => exact hn n hp.symm
    have nonB : numB w = false → Q .non st := fun hb => none_ fun n e => by
      rw [e, num_B] at hb
      cases hb
    simp [-wSeq_ap, nn]
    rw [wSeq_ap]
    simp [-wSeq_ap]
    unfold numB at nonB
    have hB : numB w = (!decide (w = Str.ofString "") && ((TL.tl w).all (fun c => decide (c ∈ TL.tl (Str.ofString "0123456789"))) && (decide (w = Str.ofString "0") || match TL.tl w with | [] => false | c :: _ => !decide ((⟨#[c]⟩ : Str) = Str.ofString "0")))) := rfl
    by_cases c0 : w = Str.ofString ""
    · simp [c0]
      rw [decide_eq_true c0] at nonB
      exact nonB (by simp)
    rw [decide_eq_false c0] at nonB hB
    simp [c0, -wSeq_ap]
    rw [if_pos h4, on_some]
    have hsg : DL.signs w = (TL.tl w).map fun c => D.str ⟨#[c]⟩ := rfl
    rw [hsg]
    refine compL_imp (enc := fun c => D.str ⟨#[c]⟩) (fun z => [some (.str (lname c)), some (.str w), some (.int m), none, none, some (D.str ⟨#[z]⟩)]) (fun c => !decide (c ∈ TL.tl (Str.ofString "0123456789"))) (fun c => D.str ⟨#[c]⟩) ?_ ?_ ?_ trivial ?_
    · simp
    · intro c hc Q hq
      have h8 : dNotIn st (.str ⟨#[c]⟩) (.str (Str.ofString "0123456789")) = some (.bl (!decide (c ∈ TL.tl (Str.ofString "0123456789")))) := rfl
      simp [h8]
      simpa using hq
    · intro c hc _ Q hq
      simpa using hq
    have e9 : (((TL.tl w).filter fun c => !decide (c ∈ TL.tl (Str.ofString "0123456789"))).map fun c => D.str ⟨#[c]⟩).isEmpty = (TL.tl w).all fun c => decide (c ∈ TL.tl (Str.ofString "0123456789")) := by
      rw [Bool.eq_iff_iff, List.isEmpty_iff, List.map_eq_nil_iff, List.filter_eq_nil_iff, List.all_eq_true]
      exact forall_congr' fun c => imp_congr_right fun hc => by simp
    rw [List.nil_append, dNe_lnil (plL_map fun _ _ => pl_str), on_some, e9]
    generalize hA : (TL.tl w).all (fun c => decide (c ∈ TL.tl (Str.ofString "0123456789"))) = A at *
    cases A with
    | false =>
      simp
      exact nonB (by simp)
    | true =>
      simp [-wSeq_ap]
      cases ht : TL.tl w with
      | nil => exact absurd (TL.ext_tl (show TL.tl w = TL.tl (Str.ofString "") by rw [ht]; decide +kernel)) c0
      | cons z r =>
        rw [ht] at nonB hB
        have ex : ∀ st, ixD st (.str w) (.int 0) = some (.str ⟨#[z]⟩) := fun st => by
          unfold ixD
          simp only
          rw [if_pos h4]
          have ew : w.cps.toList = z :: r := ht
          rw [ew, atI_0]
          rfl
        simp [-wSeq_ap, ex]
        have key : ∀ T N : Prop, (numB w = true → T) → (numB w = false → N) → (if (⟨#[z]⟩ : Str) = Str.ofString "0" then if w = Str.ofString "0" then T else N else T) := fun T N hT hN => by
          split
          · rename_i z0
            split
            · rename_i w0
              exact hT (by rw [hB, decide_eq_true w0]; rfl)
            · rename_i w0
              exact hN (by rw [hB, decide_eq_false w0]; simp [z0])
          · rename_i z0
            exact hT (by rw [hB]; simp [z0])
        refine key _ _ (fun hb => ?_) (fun hb => nonB (by rw [← hB]; exact hb))
        obtain ⟨n, en⟩ := numB_num hb
        rw [wSeq_ap]
        have ei : ∀ st, cIntT st [.str w] = some (.int n) := fun st => by rw [en]; exact intT_num (by rw [← en]; exact hl)
        simp [-wSeq_ap, ei]
        rw [wSeq_ap]
        have un : ∀ p, FitG m c p → p.t = w → p = .num n := fun p hf hp => by
          cases p with
          | nam y => rcases hc with rfl | rfl <;> first | exact absurd hf.1 dkn | exact absurd hf.1 dhn
          | sid l => rcases hc with rfl | rfl <;> first | exact absurd hf.1 dks | exact absurd hf.1 dhs
          | num j =>
            have hp : numT j = w := hp
            rw [numT_eq (by rw [hp]; exact hl) (hp.trans en)]
        rcases hc with rfl | rfl
        · rw [ek]
          simp [n3]
          by_cases c1 : n = 0
          · have : (n : Int) < 1 := by omega
            simp [this]
            refine h2 fun p hf hp => ?_
            rw [un p hf hp] at hf
            rcases hf with z | z | z
            · exact dkp z
            · omega
            · exact dkh z.1
          · have : ¬ (n : Int) < 1 := by omega
            simp [this]
            exact h1 (.num n) (.inr (.inl ⟨rfl, by omega⟩)) en.symm
        · rw [eh]
          simp [n4]
          by_cases c1 : (n : Int) < m
          · have : ¬ m ≤ (n : Int) := by omega
            simp [this]
            exact h1 (.num n) (.inr (.inr ⟨rfl, c1⟩)) en.symm
          · have : m ≤ (n : Int) := by omega
            simp [this]
            refine h2 fun p hf hp => ?_
            rw [un p hf hp] at hf
            rcases hf with z | z | z
            · exact dhp z
            · exact dhk z.1
            · exact c1 z.2
end
section
variable {st st' : Sto} {X : PoX} {Q : PoE} {a : Addr} {r : List D} {b n : Nat} {m k : Int} {c w t : Str}
def fl (l : List Str) : D := .lst (l.map D.str)
def F0 : List (Str × List Str) := [(Str.ofString "ask", [Str.ofString "name", Str.ofString "number", Str.ofString "name", Str.ofString "number"]), (Str.ofString "got", [Str.ofString "name", Str.ofString "number", Str.ofString "house", Str.ofString "number"])]
def frm (f : Str) : List Str := (TL.tl f).map fun c => (⟨#[c]⟩ : Str)
def FT : List (Str × List Str) := T_etexts.map fun q => (q.1, (frm q.2).map lname)
theorem ft_is : putT (putT (putT (putT F0 (Str.ofString "no") [Str.ofString "name", Str.ofString "number", Str.ofString "house"]) (Str.ofString "back") [Str.ofString "name", Str.ofString "number"]) (Str.ofString "word") [Str.ofString "name", Str.ofString "house", Str.ofString "number", Str.ofString "number"]) (Str.ofString "free") [Str.ofString "name", Str.ofString "house", Str.ofString "number"] = FT := by decide +kernel
theorem getT_map {α β : Type} {g : α → β} {w : Str} : ∀ {tab : List (Str × α)}, getT (tab.map fun q => (q.1, g q.2)) w = (getT tab w).map g
  | [] => rfl
  | q :: tab => by
    have ih := getT_map (g := g) (w := w) (tab := tab)
    unfold getT at ih ⊢
    rw [List.map_cons, List.find?_cons, List.find?_cons]
    by_cases c : q.1 = w
    · simp [c]
    · simp only [decide_eq_false c]
      exact ih
theorem ft_get {w : Str} : getT FT w = (getT T_etexts w).map fun f => (frm f).map lname := getT_map (g := fun f => (frm f).map lname)
theorem in_non {k : Nat} : ∀ {ds : List D}, (∀ d ∈ ds, d = .non ∨ Smp k d) → ∃ ps, toPyL ds = some ps ∧ ((ps.any fun z => PyData.eqv z .none) = true ↔ D.non ∈ ds)
  | [], _ => ⟨[], rfl, by simp⟩
  | d :: ds, h => by
    obtain ⟨ps, h1, h2⟩ := in_non (ds := ds) fun z hz => h z (List.mem_cons_of_mem _ hz)
    rcases h d List.mem_cons_self with rfl | hs
    · exact ⟨.none :: ps, by rw [toPyL, h1]; rfl, by simp [PyData.eqv]⟩
    · obtain ⟨p, g1, g2, g3⟩ := smp_py k hs
      refine ⟨p :: ps, by rw [toPyL, h1, g1], ?_⟩
      rw [List.any_cons, Bool.or_eq_true, h2, List.mem_cons]
      have hp : PyData.eqv p .none = false := by
        cases hs with
        | str => cases g1; simp [PyData.eqv]
        | int => cases g1; simp [PyData.eqv]
        | tup _ =>
          rw [toPy] at g1
          obtain ⟨ps, _, rfl⟩ := Option.map_eq_some_iff.mp g1
          simp [PyData.eqv]
        | lst _ =>
          rw [toPy] at g1
          obtain ⟨ps, _, rfl⟩ := Option.map_eq_some_iff.mp g1
          simp [PyData.eqv]
      have hd : ¬ D.non = d := fun z => by rw [← z] at hs; cases hs
      rw [hp]
      simp [hd]
theorem dIn_non {k : Nat} {ds : List D} (h : ∀ d ∈ ds, d = .non ∨ Smp k d) : ∃ b, (b = true ↔ D.non ∈ ds) ∧ ∀ st, dIn st .non (.lst ds) = some (.bl b) := by
  obtain ⟨ps, h1, h2⟩ := in_non h
  refine ⟨_, h2, fun st => ?_⟩
  show (anyEq st ds .non).map D.bl = _
  unfold anyEq
  rw [h1]
  rfl
def oD : Option Pt → D
  | some p => p.d
  | none => .non
/-- what a word is read as -/
def Rd2 (m : Int) (c w : Str) : Option Pt → Prop
  | some p => FitG m c p ∧ p.t = w
  | none => ∀ p, FitG m c p → p.t ≠ w
theorem smp_ptd {p : Pt} : Smp 1 p.d := by
  cases p with
  | nam x => exact .str
  | num n => exact .int
  | sid l =>
    refine .tup fun d hd => ?_
    obtain ⟨n, _, rfl⟩ := List.mem_map.mp hd
    exact .int
theorem os_some : ∀ {os : List (Option Pt)}, none ∉ os → ∃ ps : List Pt, os = ps.map some
  | [], _ => ⟨[], rfl⟩
  | some p :: os, h => by
    obtain ⟨ps, rfl⟩ := os_some (os := os) fun z => h (List.mem_cons_of_mem _ z)
    exact ⟨p :: ps, rfl⟩
  | none :: os, h => absurd List.mem_cons_self h
theorem ap_entry (hm : m ≤ 60) (hl : t.length ≤ 640) (h1 : ∀ w ps, RowG m T_etexts t w ps → Q (Rw2.d (w, ps)) st) (h2 : (∀ w ps, ¬ RowG m T_etexts t w ps) → Q .non st) : F__law_entry_o [.str t, .int m] st X Q := by
  have sz := sizeLine_eq
  have part : ∀ {c w : Str} {st : Sto} {X : PoX} {Q : PoE}, (c = Str.ofString "n" ∨ c = Str.ofString "k" ∨ c = Str.ofString "h") → w.length ≤ 640 → (∀ p, FitG m c p → p.t = w → Q p.d st) → ((∀ p, FitG m c p → p.t ≠ w) → Q .non st) → F__law_part [.str (lname c), .str w, .int m] st X Q := fun hc hl h1 h2 => ap_part hc hl h1 h2
  simp only [F__law_entry_o, wDef_ap]
  generalize F__law_part = Fp at *
  refine ⟨rfl, ?_⟩
  rw [wSeq_ap]
  simp [-wSeq_ap]
  intro q hq0
  refine on_of (x := encT fl F0) (by kernel_rfl) ⟨Nat.le_of_ble_eq_true (by kernel_rfl), ?_⟩
  have hM : mergeD [] (encT fl F0) = encT fl F0 := by kernel_rfl
  rw [hM]
  rw [wSeq_ap]
  simp [-wSeq_ap]
  refine on_of (putD_T (f := fl) (v := [Str.ofString "name", Str.ofString "number", Str.ofString "house"]) Sto.set_same (by decide +kernel)) ?_
  rw [Sto.set_set, wSeq_ap]
  simp [-wSeq_ap]
  refine on_of (putD_T (f := fl) (v := [Str.ofString "name", Str.ofString "number"]) Sto.set_same (by decide +kernel)) ?_
  rw [Sto.set_set, wSeq_ap]
  simp [-wSeq_ap]
  refine on_of (putD_T (f := fl) (v := [Str.ofString "name", Str.ofString "house", Str.ofString "number", Str.ofString "number"]) Sto.set_same (by decide +kernel)) ?_
  rw [Sto.set_set, wSeq_ap]
  simp [-wSeq_ap]
  refine on_of (putD_T (f := fl) (v := [Str.ofString "name", Str.ofString "house", Str.ofString "number"]) Sto.set_same (by decide +kernel)) ?_
  rw [Sto.set_set, ft_is]
  have sp : splitOk t blank := ⟨by decide +kernel, by omega, by decide +kernel⟩
  have ems : ∀ st, mSplit st (.str t) [.str (Str.ofString " ")] = some (.lst ((Txt.split t blank).map D.str), st) := fun st => by
    unfold mSplit
    simp only
    rw [if_pos (show splitOk t (Str.ofString " ") from sp)]
    rfl
  have shorts := spl_short sp
  have hcount := split_len sp
  obtain ⟨v, ws, hs⟩ : ∃ w ws, Txt.split t blank = w :: ws := by
    cases h : Txt.split t blank with
    | nil =>
      have := split_tl sp
      rw [h] at this
      exact absurd this.symm (spl_ne _ _ _ _)
    | cons w ws => exact ⟨w, ws, rfl⟩
  rw [hs] at shorts hcount ems
  replace shorts : ∀ y ∈ v :: ws, y.length ≤ 640 := fun y hy => Nat.le_trans (shorts y hy) hl
  have hcl : ws.length ≤ 641 := by simp at hcount; omega
  rw [List.map_cons] at ems
  rw [wSeq_ap]
  simp [-wSeq_ap, tyNm]
  rw [ems, on_some]
  dsimp only
  rw [wSeq_ap]
  simp [-wSeq_ap, -List.map_map]
  have hD : (st.set q (.dk (encT fl FT))) q = some (.dk (encT fl FT)) := Sto.set_same
  have ek : (st.set q (.dk (encT fl FT))).keepOnly st = st := by rw [Sto.keepOnly_new hq0, Sto.keepOnly_self]
  clear hM
  generalize hst : st.set q (.dk (encT fl FT)) = st1 at *
  rw [dNotIn_T hD, on_some]
  have km := getT_some (kvs := FT) (k := v)
  rw [← km, ek]
  cases hg : getT T_etexts v with
  | none =>
    rw [ft_get, hg]
    simp
    refine h2 fun w ps ⟨r1, form, r2, _⟩ => ?_
    rw [hs] at r1
    injection r1 with r1 _
    rw [← r1, hg] at r2
    cases r2
  | some form =>
  have hf : getT FT v = some ((frm form).map lname) := by rw [ft_get, hg]; rfl
  rw [hf]
  simp only [Option.isSome_some, Bool.not_true, bOf_bl, on_some, Bool.false_eq_true, if_false]
  rw [ixD_T hD hf, on_some]
  obtain ⟨t1, t2, t3⟩ := etab_ok _ (getT_in hg)
  have t1 : form.length ≤ 10 := t1
  have cfl : (frm form).length = form.length := by unfold frm; rw [List.length_map, TL.len_tl]
  have hcs : ∀ c ∈ frm form, c = Str.ofString "n" ∨ c = Str.ofString "k" ∨ c = Str.ofString "h" := by
    have : ∀ q ∈ T_etexts, ∀ c ∈ frm q.2, c = Str.ofString "n" ∨ c = Str.ofString "k" ∨ c = Str.ofString "h" := by decide +kernel
    exact this _ (getT_in hg)
  have cl : ∀ st, cLen st [fl ((frm form).map lname)] = some (.int form.length) := fun st => by
    unfold fl
    simp [cLen, lenD, cfl] <;> omega
  rw [cl, on_some]
  simp only [dAdd_int, on_some, dNe_int, bOf_bl]
  by_cases hc : (ws.length : Int) + 1 = 1 + form.length
  rotate_left
  · rw [decide_eq_false hc]
    simp
    refine h2 fun w ps ⟨r1, form', r2, r3, _⟩ => ?_
    rw [hs] at r1
    injection r1 with r1 r4
    rw [← r1, hg] at r2
    cases r2
    have : ws.length = ps.length := by rw [r4, List.length_map]
    omega
  rw [decide_eq_true hc]
  simp only [Bool.not_true, Bool.false_eq_true, if_false]
  rw [wSeq_ap]
  have ec : cutD (D.str v :: ws.map D.str) (some 1) none = ws.map D.str := by rw [cutD_from (by omega)]; rfl
  have ec2 : cutD (D.str v :: ws.map D.str) none (some 1) = [D.str v] := by rw [cutD_to (by omega)]; rfl
  simp [-wSeq_ap, -List.map_map]
  rw [ixD_T hD hf, on_some, ec]
  have ez : zip2 st1 [fl ((frm form).map lname), .lst (ws.map D.str)] = some (((frm form).map lname).map D.str, ws.map D.str) := rfl
  rw [ez, on_some]
  have hz : zipL (((frm form).map lname).map D.str) (ws.map D.str) = ((frm form).zip ws).map fun q => D.tup [.str (lname q.1), .str q.2] := by
    rw [zipL_zip, List.zip_map_right, List.map_map, List.zip_map_left, List.map_map]
    rfl
  dsimp only
  rw [hz]
  refine compL_inv (enc := fun q : Str × Str => D.tup [.str (lname q.1), .str q.2]) (fun acc rest st' => st' = st1 ∧ ∃ (done : List (Str × Str)) (os : List (Option Pt)), (frm form).zip ws = done ++ rest ∧ done.length = os.length ∧ (∀ z ∈ done.zip os, Rd2 m z.1.1 z.1.2 z.2) ∧ acc = os.map oD) (fun _ _ _ _ => rfl) ?_ ?_ _ _ _ ⟨rfl, [], [], rfl, rfl, fun _ h => (by cases h), rfl⟩
  · rintro acc st' ⟨rfl, done, os, g1, g2, g3, rfl⟩
    rw [List.append_nil] at g1
    subst g1
    have lws : ((frm form).zip ws).length = ws.length := by rw [List.length_zip, cfl]; omega
    rw [wSeq_ap]
    simp [-wSeq_ap, -List.map_map]
    obtain ⟨b, hb, eb⟩ := dIn_non (ds := os.map oD) (k := 1) fun d hd => by
      obtain ⟨o, _, rfl⟩ := List.mem_map.mp hd
      cases o with
      | none => exact .inl rfl
      | some p => exact .inr smp_ptd
    replace hb : b = true ↔ none ∈ os := by
      rw [hb, List.mem_map]
      constructor
      · rintro ⟨o, ho, e⟩
        cases o with
        | none => exact ho
        | some p => cases p <;> cases e
      · exact fun h => ⟨none, h, rfl⟩
    rw [eb, on_some]
    cases b with
    | true =>
      simp
      rw [ek]
      have hn := hb.mp rfl
      refine h2 fun w ps ⟨r1, form', r2, r3, r4⟩ => ?_
      rw [hs] at r1
      injection r1 with r1 r5
      rw [← r1, hg] at r2
      cases r2
      have r4 : ∀ q ∈ (frm form).zip ps, FitG m q.1 q.2 := r4
      obtain ⟨i, hi, e⟩ := List.mem_iff_getElem.mp hn
      have i1 : i < ws.length := by omega
      have i2 : i < ps.length := by rw [r5, List.length_map] at i1; exact i1
      have i3 : i < (frm form).length := by rw [cfl]; omega
      have := g3 _ (List.getElem_mem (l := ((frm form).zip ws).zip os) (n := i) (by rw [List.length_zip, lws]; omega))
      rw [List.getElem_zip, List.getElem_zip, e] at this
      have h4 := r4 _ (List.getElem_mem (l := (frm form).zip ps) (n := i) (by rw [List.length_zip]; omega))
      rw [List.getElem_zip] at h4
      refine this _ h4 ?_
      simp only [r5, List.getElem_map]
    | false =>
      have hn : none ∉ os := fun z => by
        have := hb.mpr z
        cases this
      obtain ⟨ps, rfl⟩ := os_some hn
      have e5 : (ps.map some).map oD = ps.map Pt.d := by rw [List.map_map]; rfl
      rw [List.length_map] at g2
      have hws : ws = ps.map Pt.t := by
        refine List.ext_getElem (by rw [List.length_map]; omega) fun i h1 h2 => ?_
        have i3 : i < (frm form).length := by rw [cfl]; omega
        have := g3 _ (List.getElem_mem (l := ((frm form).zip ws).zip (ps.map some)) (n := i) (by rw [List.length_zip, lws, List.length_map]; omega))
        rw [List.getElem_zip, List.getElem_zip, List.getElem_map] at this
        rw [List.getElem_map]
        exact this.2.symm
      have R : RowG m T_etexts t v ps := by
        refine ⟨by rw [hs, hws], form, hg, by omega, fun q hq => ?_⟩
        have hq : q ∈ (frm form).zip ps := hq
        obtain ⟨i, hi, rfl⟩ := List.mem_iff_getElem.mp hq
        rw [List.length_zip] at hi
        have := g3 _ (List.getElem_mem (l := ((frm form).zip ws).zip (ps.map some)) (n := i) (by rw [List.length_zip, lws, List.length_map]; omega))
        rw [List.getElem_zip, List.getElem_zip, List.getElem_map] at this
        rw [List.getElem_zip]
        exact this.1
      have hq := h1 v ps R
      simp [-List.map_map]
      rw [e5, ec2, dAdd_lst (by simp; omega), on_some, cTuple_lst, on_some, ek]
      exact hq
  · rintro ⟨c, y⟩ rest acc st' N ⟨rfl, done, os, g1, g2, g3, rfl⟩ hN
    have hmem : (c, y) ∈ (frm form).zip ws := by rw [g1]; simp
    have hc1 : c ∈ frm form := (List.of_mem_zip hmem).1
    have hy1 : y ∈ ws := (List.of_mem_zip hmem).2
    have next : ∀ o, Rd2 m c y o → N (os.map oD ++ [oD o]) st' := fun o ho => hN _ _ ⟨rfl, done ++ [(c, y)], os ++ [o], by rw [g1]; simp, by simp [g2], fun z hz => by
      rw [List.zip_append g2] at hz
      rcases List.mem_append.mp hz with hz | hz
      · exact g3 z hz
      · have : z = ((c, y), o) := by simpa using hz
        rw [this]
        exact ho, by simp⟩
    simp
    exact part (hcs c hc1) (shorts y (List.mem_cons_of_mem _ hy1)) (fun p hp he => next (some p) ⟨hp, he⟩) (fun hn => next none hn)
end
section
variable {st st' : Sto} {X : PoX} {Q : PoE} {a : Addr} {r : List D} {b n : Nat} {m k : Int} {c w t : Str}
def oR : Option Rw2 → D
  | some r => r.d
  | none => .non
def RdR (m : Int) (w : Str) : Option Rw2 → Prop
  | some r => RowG m T_etexts w r.1 r.2
  | none => ∀ w' ps, ¬ RowG m T_etexts w w' ps
theorem smp_rowd {r : Rw2} : Smp 2 r.d := .tup fun d hd => by
  rcases List.mem_cons.mp hd with rfl | hd
  · exact .str
  · obtain ⟨p, _, rfl⟩ := List.mem_map.mp hd
    exact smp_ptd
theorem osr_some : ∀ {os : List (Option Rw2)}, none ∉ os → ∃ ps : List Rw2, os = ps.map some
  | [], _ => ⟨[], rfl⟩
  | some p :: os, h => by
    obtain ⟨ps, rfl⟩ := osr_some (os := os) fun z => h (List.mem_cons_of_mem _ z)
    exact ⟨p :: ps, rfl⟩
  | none :: os, h => absurd List.mem_cons_self h
theorem ap_read (hm : m ≤ 60) (hl : t.length ≤ 1000000) (hln : ∀ y ∈ Txt.split t nline, y.length ≤ 640) (h1 : ∀ rs, LogG m t rs → Q (.tup (rs.map Rw2.d)) st) (h2 : (∀ rs, ¬ LogG m t rs) → Q .non st) : F__law_read [.str t, .int m] st X Q := by
  have sz := sizeLine_eq
  have entry : ∀ {t : Str} {st : Sto} {X : PoX} {Q : PoE}, t.length ≤ 640 → (∀ w ps, RowG m T_etexts t w ps → Q (Rw2.d (w, ps)) st) → ((∀ w ps, ¬ RowG m T_etexts t w ps) → Q .non st) → F__law_entry_o [.str t, .int m] st X Q := fun hl h1 h2 => ap_entry hm hl h1 h2
  have e0 : st.keepOnly st = st := Sto.keepOnly_self st
  simp only [F__law_read, wDef_ap]
  generalize F__law_entry_o = Fp at *
  refine ⟨rfl, ?_⟩
  rw [wSeq_ap]
  simp [-wSeq_ap]
  by_cases hd : t = Str.ofString "-"
  · rw [if_pos hd]
    exact h1 [] (.inl ⟨hd, rfl⟩)
  rw [if_neg hd]
  have sp : splitOk t nline := ⟨by decide +kernel, by omega, by decide +kernel⟩
  have ems : ∀ st, mSplit st (.str t) [.str (Str.ofString "\n")] = some (.lst ((Txt.split t nline).map D.str), st) := fun st => by
    unfold mSplit
    simp only
    rw [if_pos (show splitOk t (Str.ofString "\n") from sp)]
    rfl
  have hcount := split_len sp
  generalize hws : Txt.split t nline = ws at *
  rw [wSeq_ap]
  simp [-wSeq_ap, tyNm]
  rw [ems, on_some]
  dsimp only
  rw [sqOf_lst, on_some]
  refine compL_inv (enc := D.str) (fun acc rest st' => st' = st ∧ ∃ (done : List Str) (os : List (Option Rw2)), ws = done ++ rest ∧ done.length = os.length ∧ (∀ z ∈ done.zip os, RdR m z.1 z.2) ∧ acc = os.map oR) (fun _ _ _ _ => rfl) ?_ ?_ _ _ _ ⟨rfl, [], [], rfl, rfl, fun _ h => (by cases h), rfl⟩
  · rintro acc st' ⟨rfl, done, os, g1, g2, g3, rfl⟩
    rw [List.append_nil] at g1
    subst g1
    rw [wSeq_ap]
    simp [-wSeq_ap, -List.map_map]
    obtain ⟨b, hb, eb⟩ := dIn_non (ds := os.map oR) (k := 2) fun d hd => by
      obtain ⟨o, _, rfl⟩ := List.mem_map.mp hd
      cases o with
      | none => exact .inl rfl
      | some p => exact .inr smp_rowd
    replace hb : b = true ↔ none ∈ os := by
      rw [hb, List.mem_map]
      constructor
      · rintro ⟨o, ho, e⟩
        cases o with
        | none => exact ho
        | some p => cases e
      · exact fun h => ⟨none, h, rfl⟩
    rw [eb, on_some]
    cases b with
    | true =>
      simp
      have hn := hb.mp rfl
      refine h2 fun rs hr => ?_
      rcases hr with ⟨z, _⟩ | ⟨_, r1, r2⟩
      · exact hd z
      rw [hws] at r1 r2
      obtain ⟨i, hi, e⟩ := List.mem_iff_getElem.mp hn
      have := g3 _ (List.getElem_mem (l := ws.zip os) (n := i) (by rw [List.length_zip]; omega))
      rw [List.getElem_zip, e] at this
      have h4 := r2 _ (List.getElem_mem (l := ws.zip rs) (n := i) (by rw [List.length_zip]; omega))
      rw [List.getElem_zip] at h4
      exact this _ _ h4
    | false =>
      have hn : none ∉ os := fun z => by
        have := hb.mpr z
        cases this
      obtain ⟨ps, rfl⟩ := osr_some hn
      have e5 : (ps.map some).map oR = ps.map Rw2.d := by rw [List.map_map]; rfl
      rw [List.length_map] at g2
      have R : LogG m t ps := by
        refine .inr ⟨hd, by rw [hws]; exact g2, fun q hq => ?_⟩
        rw [hws] at hq
        obtain ⟨i, hi, rfl⟩ := List.mem_iff_getElem.mp hq
        rw [List.length_zip] at hi
        have := g3 _ (List.getElem_mem (l := ws.zip (ps.map some)) (n := i) (by rw [List.length_zip, List.length_map]; omega))
        rw [List.getElem_zip, List.getElem_map] at this
        rw [List.getElem_zip]
        exact this
      simp [-List.map_map]
      rw [e5]
      exact h1 ps R
  · rintro y rest acc st' N ⟨rfl, done, os, g1, g2, g3, rfl⟩ hN
    have next : ∀ o, RdR m y o → N (os.map oR ++ [oR o]) st' := fun o ho => hN _ _ ⟨rfl, done ++ [y], os ++ [o], by rw [g1]; simp, by simp [g2], fun z hz => by
      rw [List.zip_append g2] at hz
      rcases List.mem_append.mp hz with hz | hz
      · exact g3 z hz
      · have : z = (y, o) := by simpa using hz
        rw [this]
        exact ho, by simp⟩
    simp
    exact entry (hln y (by rw [g1]; simp)) (fun w ps R => next (some (w, ps)) R) (fun hn => next none hn)
theorem rows_inj : ∀ {ls : List Str} {rs rs' : List Rw2}, (∀ y ∈ ls, y.length ≤ 640) → ls.length = rs.length → ls.length = rs'.length → (∀ q ∈ ls.zip rs, RowG m T_etexts q.1 q.2.1 q.2.2) → (∀ q ∈ ls.zip rs', RowG m T_etexts q.1 q.2.1 q.2.2) → rs = rs'
  | [], [], [], _, _, _, _, _ => rfl
  | [], _ :: _, _, _, h, _, _, _ => by simp at h
  | [], [], _ :: _, _, _, h, _, _ => by simp at h
  | _ :: _, [], _, _, h, _, _, _ => by simp at h
  | _ :: _, _ :: _, [], _, _, h, _, _ => by simp at h
  | c :: cs, p :: ps, p' :: ps', hl, h1, h2, f1, f2 => by
    rw [List.zip_cons_cons] at f1 f2
    obtain ⟨a1, a2⟩ := rowG_inj (hl c List.mem_cons_self) (f1 (c, p) List.mem_cons_self) (f2 (c, p') List.mem_cons_self)
    have b := rows_inj (ls := cs) (rs := ps) (rs' := ps') (fun y hy => hl y (List.mem_cons_of_mem _ hy)) (by simpa using h1) (by simpa using h2) (fun q hq => f1 q (List.mem_cons_of_mem _ hq)) fun q hq => f2 q (List.mem_cons_of_mem _ hq)
    rw [b, show p = p' from Prod.ext a1 a2]
theorem logG_inj {rs rs' : List Rw2} (hln : ∀ y ∈ Txt.split t nline, y.length ≤ 640) (h : LogG m t rs) (h' : LogG m t rs') : rs = rs' := by
  rcases h with ⟨a, rfl⟩ | ⟨a, b, c⟩
  · rcases h' with ⟨_, rfl⟩ | ⟨a', _, _⟩
    · rfl
    · exact absurd a a'
  · rcases h' with ⟨a', _⟩ | ⟨_, b', c'⟩
    · exact absurd a' a
    · exact rows_inj hln b b' c c'
theorem ap_right (hm : m ≤ 60) (hl : t.length ≤ 1000000) (hln : ∀ y ∈ Txt.split t nline, y.length ≤ 640) (hq : Q (.bl true) st) : F__law_right [.str t, .int m] st X Q := by
  have read : ∀ {st : Sto} {X : PoX} {Q : PoE}, (∀ rs, LogG m t rs → Q (.tup (rs.map Rw2.d)) st) → ((∀ rs, ¬ LogG m t rs) → Q .non st) → F__law_read [.str t, .int m] st X Q := fun h1 h2 => ap_read hm hl hln h1 h2
  have deed : ∀ {st : Sto} {X : PoX} {Q : PoE}, (∀ rs, LogG m t rs → Q (.tup (rs.map Rw2.d)) st) → ((∀ rs, ¬ LogG m t rs) → X (Str.ofString "NoText") st) → F_read_logX [.int m, .str t] st X Q := fun h1 h2 => ap_read_log_G hm hl hln h1 h2
  have e0 : st.keepOnly st = st := Sto.keepOnly_self st
  simp only [F__law_right, wDef_ap]
  generalize F__law_read = Fr at *
  generalize F_read_logX = Fd at *
  refine ⟨rfl, ?_⟩
  rw [wSeq_ap]
  simp [-wSeq_ap]
  refine read (fun rs hr => ?_) (fun hn => ?_)
  · rw [wSeq_ap]
    simp [-wSeq_ap]
    rw [wSeq_ap]
    simp [-wSeq_ap]
    rw [wSeq_ap]
    simp [-wSeq_ap]
    refine deed (fun rs' hr' => ?_) (fun hn => absurd hr (hn rs))
    have := logG_inj hln hr hr'
    subst this
    rw [wSeq_ap]
    have e1 : ∀ st, dIsNot st (.tup (rs.map Rw2.d)) .non = some (.bl true) := fun _ => rfl
    simp [-wSeq_ap, e1]
    have hp : pl 64 (.tup (rs.map Rw2.d)) = true := by
      rw [pl_tup]
      exact plL_map fun r _ => pl_rowD (n := 59)
    rw [dEq_self hp, on_some]
    simp
    exact hq
  · rw [wSeq_ap]
    simp [-wSeq_ap]
    rw [wSeq_ap]
    simp [-wSeq_ap]
    rw [wSeq_ap]
    simp [-wSeq_ap]
    refine deed (fun rs hr => absurd hr (hn rs)) (fun _ => ?_)
    refine ⟨by decide +kernel, ?_⟩
    rw [if_pos (by decide +kernel)]
    have e1 : ∀ st, dIsNot st .non .non = some (.bl false) := fun _ => rfl
    rw [wSeq_ap]
    simp [-wSeq_ap, e1]
    rw [wSeq_ap]
    simp [-wSeq_ap, noText_1]
    simp [noText_2, noText_3]
    exact hq
end
section
variable {st st' : Sto} {X : PoX} {Q : PoE} {a : Addr} {r : List D} {b n K L M : Nat} {m c k : Int} {w t : Str} {ls : List Str}
theorem others : ∀ x ∈ [Str.ofString "ask", Str.ofString "got", Str.ofString "no", Str.ofString "back", Str.ofString "word", Str.ofString "free", Str.ofString "0", Str.ofString "1", Str.ofString "6", Str.ofString "7", Str.ofString "ab", Str.ofString "", Str.ofString "00", Str.ofString "01", Str.ofString "-", Str.ofString "claim"], Bt 5 x := by decide +kernel
theorem J_rev : ∀ {ws : List Str}, J ws.reverse = J ws
  | [] => rfl
  | w :: ws => by rw [List.reverse_cons, J_app, J_cons, J_nil, J_cons, J_rev (ws := ws)]; omega
theorem ap_line (hr : st a = some (.lst r)) (ok : PotOk b r) (hb : b ≤ 10 ^ 13) (h0 : 0 < ls.length) (hk : ∀ l ∈ ls, Bt K l) (hK : K ≤ 2000) (hJ : J ls ≤ M) (hM : M ≤ 20000) (h : ∀ ls' r', (∀ l ∈ ls', Bt (2 * K + 20) l) → J ls' ≤ 2 * M + 2 * K + 40 → PotOk (b + 10) r' → Q (.lst (ls'.map .str)) (st.set a (.lst r'))) : F__law_line_bent [.ref a, .lst (ls.map .str)] st X Q := by
  have sz := sizeLine_eq
  have sm : (st a).isSome = true := by rw [hr]; rfl
  have fin : ∀ {ls' r'}, (∀ l ∈ ls', Bt (2 * K + 20) l) → J ls' ≤ 2 * M + 2 * K + 40 → PotOk (b + 10) r' → Q (.lst (ls'.map .str)) ((st.set a (.lst r')).keepOnly st) := fun h1 h2 h3 => by
    rw [Sto.keepOnly_set sm, Sto.keepOnly_self]
    exact h _ _ h1 h2 h3
  clear h
  have pull : ∀ {r : List D} {b : Nat} {k : Int} {st' : Sto} {X : PoX} {Q : PoE}, st' = st.set a (.lst r) → PotOk b r → b ≤ 10 ^ 14 → 0 < k → k ≤ 10 ^ 20 → (∀ n r', 0 ≤ n → n < k → PotOk (b + 1) r' → Q (.int n) (st.set a (.lst r'))) → F__law_pull [.ref a, .int k] st' X Q := fun {r b k st' X Q} e ok hb h1 h2 hq => by
    subst e
    refine ap_pull Sto.set_same ok (by omega) h1 h2 fun n r' a b c => ?_
    rw [Sto.set_set]
    exact hq n r' a b c
  have hll := J_len (ws := ls)
  have hkm : ∀ l ∈ ls, Bt (2 * K + 20) l := fun l hl => (hk l hl).mono (by omega)
  have hcat : ∀ {st : Sto} {us vs : List Str}, us.length + vs.length ≤ 100000 → dAdd st (.lst (us.map D.str)) (.lst (vs.map D.str)) = some (.lst ((us ++ vs).map D.str)) := fun {st us vs} h => by
    rw [dAdd_lst (by rw [List.length_map, List.length_map]; omega), List.map_append]
  have LT : ∀ {ws : List Str} {k}, (ws.take k).length ≤ ws.length := fun {ws k} => (List.take_sublist _ _).length_le
  have LD : ∀ {ws : List Str} {k}, (ws.drop k).length ≤ ws.length := fun {ws k} => (List.drop_sublist _ _).length_le
  have JT : ∀ {ws : List Str} {k}, J (ws.take k) ≤ J ws := fun {ws k} => J_sub (List.take_sublist _ _)
  have JD : ∀ {ws : List Str} {k}, J (ws.drop k) ≤ J ws := fun {ws k} => J_sub (List.drop_sublist _ _)
  have J3 : ∀ {ws : List Str} {k}, J (ws.take k) + J (ws.drop (k + 1)) ≤ J ws := fun {ws k} => by
    have h1 : J (ws.take k) + J (ws.drop k) = J ws := by rw [← J_app, List.take_append_drop]
    have h2 : J (ws.drop (k + 1)) ≤ J (ws.drop k) := J_sub (by
      rw [← List.drop_drop]
      exact List.drop_sublist _ _)
    omega
  have IN : ∀ {ws : List Str} {i j : Nat} {w : Str}, w ∈ ws.take i ++ ws.drop j → w ∈ ws := fun {ws i j w} h => (List.mem_append.mp h).elim List.mem_of_mem_take List.mem_of_mem_drop
  simp only [F__law_line_bent, wDef_ap]
  generalize F__law_pull = F at *
  refine ⟨rfl, ?_⟩
  rw [wSeq_ap]
  simp [-wSeq_ap]
  refine pull (Sto.set_self hr).symm ok (by omega) (by omega) (by omega) (fun spot r1 a1 b1 ok1 => ?_)
  have es1 : (spot + 1).toNat = spot.toNat + 1 := by omega
  rw [wSeq_ap]
  simp [-wSeq_ap]
  obtain ⟨ln, hln, eln⟩ := atI_str a1 b1
  rw [eln, on_some]
  have hB := hk ln hln
  have sp : splitOk ln blank := ⟨by decide +kernel, by have := hB.1; omega, by decide +kernel⟩
  have ems : ∀ st, mSplit st (.str ln) [.str (Str.ofString " ")] = some (.lst ((Txt.split ln blank).map D.str), st) := fun st => by
    unfold mSplit
    simp only
    rw [if_pos (show splitOk ln (Str.ofString " ") from sp)]
    rfl
  have hJw : J (Txt.split ln blank) ≤ K + 1 := by rw [J_split sp blank_tl]; have := hB.1; omega
  have hA := split_asc sp hB.2
  have hW : 0 < (Txt.split ln blank).length := List.length_pos_iff.mpr fun z => by
    have := split_tl sp
    rw [z] at this
    exact absurd this.symm (spl_ne _ _ _ _)
  simp [-wSeq_ap, tyNm]
  rw [ems, on_some]
  dsimp only
  generalize Txt.split ln blank = ws at *
  have hwl := J_len (ws := ws)
  rw [wSeq_ap]
  simp [-wSeq_ap]
  refine pull rfl ok1 (by omega) (by omega) (by omega) (fun at' r2 a2 b2 ok2 => ?_)
  have es2 : (at' + 1).toNat = at'.toNat + 1 := by omega
  rw [wSeq_ap]
  simp [-wSeq_ap]
  rw [wSeq_ap]
  simp [-wSeq_ap]
  refine pull rfl ok2 (by omega) (by omega) (by omega) (fun way r3 a3 b3 ok3 => ?_)
  replace ok3 := ok3.mono (b' := b + 4) (by omega)
  rw [wSeq_ap]
  by_cases c0 : way = 0
  · simp [c0, cutD_to a1, cutD_from (show (0 : Int) ≤ spot + 1 by omega), take_map, drop_map, es1, -List.map_take, -List.map_drop]
    rw [hcat (by have := LT (ws := ls) (k := spot.toNat); have := LD (ws := ls) (k := spot.toNat + 1); omega), on_some]
    exact fin (fun l hl => hkm l (IN hl)) (by rw [J_app]; have := J3 (ws := ls) (k := spot.toNat); omega) (ok3.mono (by omega))
  simp [c0, -wSeq_ap]
  rw [wSeq_ap]
  by_cases c1 : way = 1
  · simp [c1, cutD_to (show (0 : Int) ≤ spot + 1 by omega), cutD_from a1, take_map, drop_map, es1, -List.map_take, -List.map_drop]
    rw [hcat (by have := LT (ws := ls) (k := spot.toNat + 1); have := LD (ws := ls) (k := spot.toNat); omega), on_some]
    exact fin (fun l hl => hkm l (IN hl)) (by rw [J_app]; have := JT (ws := ls) (k := spot.toNat + 1); have := JD (ws := ls) (k := spot.toNat); omega) (ok3.mono (by omega))
  simp [c1, -wSeq_ap]
  rw [wSeq_ap]
  by_cases c2 : way = 2
  · simp [c2]
    rw [← List.map_reverse]
    exact fin (fun l hl => hkm l (List.mem_reverse.mp hl)) (by rw [J_rev]; omega) (ok3.mono (by omega))
  simp [c2, -wSeq_ap]
  refine seq_via (fun e' st' => ∃ us r', (∀ w ∈ us, asc w) ∧ J us ≤ 2 * K + 20 ∧ PotOk (b + 5) r' ∧ st' = st.set a (.lst r') ∧ ∃ w5, e' = [some (.ref a), some (.lst (ls.map D.str)), some (.int spot), some (.lst (us.map D.str)), some (.int at'), w5, some (.int way)]) ?_ ?_
  · intro N hN
    have three : ∀ {x : Str} {A : Nat} {r' : List D} {w5 : Option D}, Bt A x → A ≤ K + 13 → PotOk (b + 5) r' → on (dAdd (st.set a (.lst r')) (.lst ((ws.take at'.toNat).map D.str)) (.lst [.str x])) fun z => on (dAdd (st.set a (.lst r')) z (.lst ((ws.drop (at'.toNat + 1)).map D.str))) fun z => N [some (.ref a), some (.lst (ls.map D.str)), some (.int spot), some z, some (.int at'), w5, some (.int way)] (st.set a (.lst r')) := fun {x A r' w5} hx hA' ok' => by
      have l1 := LT (ws := ws) (k := at'.toNat)
      have l2 := LD (ws := ws) (k := at'.toNat + 1)
      have e := hcat (st := st.set a (.lst r')) (us := ws.take at'.toNat) (vs := [x]) (by simp; omega)
      rw [show [D.str x] = [x].map D.str from rfl, e, on_some, hcat (by rw [List.length_append]; simp; omega), on_some]
      refine hN _ _ ⟨_, r', fun w hw => ?_, ?_, ok', rfl, w5, rfl⟩
      · rcases List.mem_append.mp hw with hw | hw
        · rcases List.mem_append.mp hw with hw | hw
          · exact hA w (List.mem_of_mem_take hw)
          · rw [List.mem_singleton.mp hw]; exact hx.2
        · exact hA w (List.mem_of_mem_drop hw)
      · rw [J_app, J_app, J_cons, J_nil]
        have := J3 (ws := ws) (k := at'.toNat)
        have := hx.1
        omega
    by_cases c3 : way = 3
    · simp [c3, cutD_to a2, cutD_from (show (0 : Int) ≤ at' + 1 by omega), take_map, drop_map, es2, -List.map_take, -List.map_drop]
      rw [hcat (by have := LT (ws := ws) (k := at'.toNat); have := LD (ws := ws) (k := at'.toNat + 1); omega), on_some]
      refine hN _ _ ⟨_, r3, fun w hw => hA w (IN hw), ?_, ok3.mono (by omega), rfl, _, by rw [c3]⟩
      rw [J_app]
      have := J3 (ws := ws) (k := at'.toNat)
      omega
    by_cases c4 : way = 4
    · simp [c4, cutD_to (show (0 : Int) ≤ at' + 1 by omega), cutD_from a2, take_map, drop_map, es2, -List.map_take, -List.map_drop]
      rw [hcat (by have := LT (ws := ws) (k := at'.toNat + 1); have := LD (ws := ws) (k := at'.toNat); omega), on_some]
      refine hN _ _ ⟨_, r3, fun w hw => hA w (IN hw), ?_, ok3.mono (by omega), rfl, _, by rw [c4]⟩
      rw [J_app]
      have := JT (ws := ws) (k := at'.toNat + 1)
      have := JD (ws := ws) (k := at'.toNat)
      omega
    by_cases c5 : way = 5
    · subst c5
      obtain ⟨u, hu, eu⟩ := atI_str a2 b2
      have hub : Bt K u := ⟨by have := J_mem hu; omega, hA u hu⟩
      have h0 : Bt 1 (Str.ofString "0") := by decide +kernel
      simp [cutD_to a2, cutD_from (show (0 : Int) ≤ at' + 1 by omega), take_map, drop_map, es2, -List.map_take, -List.map_drop]
      rw [eu, on_some, dAdd_strs (by have := h0.1; have := hub.1; omega), on_some]
      exact three (h0.cat hub) (by omega) (ok3.mono (by omega))
    · simp [c3, c4, c5, cutD_to a2, cutD_from (show (0 : Int) ≤ at' + 1 by omega), take_map, drop_map, es2, -List.map_take, -List.map_drop]
      refine pull rfl ok3 (by omega) (by omega) (by omega) (fun z r7 a7 b7 ok7 => ?_)
      obtain ⟨o, ho, eo⟩ := atI_str (L := [Str.ofString "ask", Str.ofString "got", Str.ofString "no", Str.ofString "back", Str.ofString "word", Str.ofString "free", Str.ofString "0", Str.ofString "1", Str.ofString "6", Str.ofString "7", Str.ofString "ab", Str.ofString "", Str.ofString "00", Str.ofString "01", Str.ofString "-", Str.ofString "claim"]) a7 (by simp; omega)
      simp only [List.map_cons, List.map_nil] at eo
      rw [ixD_lst, eo, on_some]
      exact three (others o ho) (by omega) (ok7.mono (by omega))
  rintro e' st' ⟨us, r4, hus, hJu, ok4, rfl, w5, rfl⟩
  simp [cutD_to a1, cutD_from (show (0 : Int) ≤ spot + 1 by omega), take_map, drop_map, es1, -List.map_take, -List.map_drop]
  rw [join_J (by decide +kernel) (by omega), on_some]
  dsimp only
  have hnew : Bt (2 * K + 20) (Txt.join blank us) := bt_words hus hJu
  have hnew2 : Txt.join (Str.ofString " ") us = Txt.join blank us := rfl
  rw [hnew2]
  generalize Txt.join blank us = x at *
  have l1 := LT (ws := ls) (k := spot.toNat)
  have l2 := LD (ws := ls) (k := spot.toNat + 1)
  have e := hcat (st := st.set a (.lst r4)) (us := ls.take spot.toNat) (vs := [x]) (by simp; omega)
  rw [show [D.str x] = [x].map D.str from rfl, e, on_some, hcat (by rw [List.length_append]; simp; omega), on_some]
  refine fin (fun w hw => ?_) ?_ (ok4.mono (by omega))
  · rcases List.mem_append.mp hw with hw | hw
    · rcases List.mem_append.mp hw with hw | hw
      · exact hkm w (List.mem_of_mem_take hw)
      · rw [List.mem_singleton.mp hw]; exact hnew
    · exact hkm w (List.mem_of_mem_drop hw)
  · rw [J_app, J_app, J_cons, J_nil]
    have := J3 (ws := ls) (k := spot.toNat)
    have := hnew.1
    omega
end
section
variable {st st' : Sto} {X : PoX} {Q : PoE} {a : Addr} {r : List D} {b n K L M : Nat} {m c k : Int} {w t : Str} {ls : List Str}
theorem sgs : ∀ x ∈ [Str.ofString " ", Str.ofString "0", Str.ofString "1", Str.ofString "7", Str.ofString "9", Str.ofString ",", Str.ofString "a", Str.ofString "z", Str.ofString "A", Str.ofString "-", Str.ofString "\n", Str.ofString "+", Str.ofString ".", Str.ofString "_"], Bt 1 x := by decide +kernel
/-- a text and its lines -/
def Tx (L K : Nat) (t : Str) : Prop := Bt L t ∧ Sg K (TL.tl t)
theorem Tx.cat {A B : Nat} {x y : Str} (h : Tx L K x) (g : Tx A B y) : Tx (L + A) (K + B) (x ++ y) := ⟨h.1.cat g.1, by rw [TL.tl_append]; exact h.2.cat g.2⟩
theorem Tx.mono {A B : Nat} (h : Tx L K t) (h1 : L ≤ A) (h2 : K ≤ B) : Tx A B t := ⟨h.1.mono h1, h.2.mono h2⟩
theorem Tx.of (h : Bt L t) : Tx L L t := ⟨h, Sg.len (by rw [← TL.len_tl]; exact h.1)⟩
theorem ap_bent (hr : st a = some (.lst r)) (ok : PotOk b r) (hb : b ≤ 10 ^ 12) (hT : Tx L K t) (hL : L ≤ 10000) (hK : K ≤ 1000) (h : ∀ t' r', Tx (4 * L + 4 * K + 100) (2 * K + 20) t' → PotOk (b + 20) r' → Q (.str t') (st.set a (.lst r'))) : F__law_bent [.ref a, .str t] st X Q := by
  have sz := sizeLine_eq
  have sm : (st a).isSome = true := by rw [hr]; rfl
  have hB := hT.1
  have hlen : t.length ≤ 10000 := Nat.le_trans hB.1 hL
  have fin : ∀ {t' r'}, Tx (4 * L + 4 * K + 100) (2 * K + 20) t' → PotOk (b + 20) r' → Q (.str t') ((st.set a (.lst r')).keepOnly st) := fun h1 h2 => by
    rw [Sto.keepOnly_set sm, Sto.keepOnly_self]
    exact h _ _ h1 h2
  clear h
  have cl : ∀ st, cLen st [.str t] = some (.int t.length) := fun st => by simp [cLen, lenD]; omega
  have pull : ∀ {r : List D} {b : Nat} {k : Int} {st' : Sto} {X : PoX} {Q : PoE}, st' = st.set a (.lst r) → PotOk b r → b ≤ 10 ^ 14 → 0 < k → k ≤ 10 ^ 20 → (∀ n r', 0 ≤ n → n < k → PotOk (b + 1) r' → Q (.int n) (st.set a (.lst r'))) → F__law_pull [.ref a, .int k] st' X Q := fun {r b k st' X Q} e ok hb h1 h2 hq => by
    subst e
    refine ap_pull Sto.set_same ok (by omega) h1 h2 fun n r' a b c => ?_
    rw [Sto.set_set]
    exact hq n r' a b c
  have line : ∀ {ls : List Str} {r : List D} {b M : Nat} {st' : Sto} {X : PoX} {Q : PoE}, st' = st.set a (.lst r) → PotOk b r → b ≤ 10 ^ 13 → 0 < ls.length → (∀ l ∈ ls, Bt K l) → J ls ≤ M → M ≤ 20000 → (∀ ls' r', (∀ l ∈ ls', Bt (2 * K + 20) l) → J ls' ≤ 2 * M + 2 * K + 40 → PotOk (b + 10) r' → Q (.lst (ls'.map .str)) (st.set a (.lst r'))) → F__law_line_bent [.ref a, .lst (ls.map .str)] st' X Q := fun {ls r b M st' X Q} e h1 h2 h3 h4 h5 h6 h7 => by
    subst e
    refine ap_line Sto.set_same h1 h2 h3 h4 (by omega) h5 h6 fun ls' r' g1 g2 g3 => ?_
    rw [Sto.set_set]
    exact h7 ls' r' g1 g2 g3
  have sp : splitOk t nline := ⟨by decide +kernel, by omega, by decide +kernel⟩
  have ems : ∀ st, mSplit st (.str t) [.str (Str.ofString "\n")] = some (.lst ((Txt.split t nline).map D.str), st) := fun st => by
    unfold mSplit
    simp only
    rw [if_pos (show splitOk t (Str.ofString "\n") from sp)]
    rfl
  have hJ := J_split sp nline_tl
  have hA := split_asc sp hB.2
  have hLn := hT.2.lines sp
  have hW : Txt.split t nline ≠ [] := fun z => by
    have := split_tl sp
    rw [z] at this
    exact absurd this.symm (spl_ne _ _ _ _)
  generalize Txt.split t nline = ls at *
  simp only [F__law_bent, wDef_ap]
  generalize F__law_pull = F at *
  generalize F__law_line_bent = Fl at *
  refine ⟨rfl, ?_⟩
  rw [wSeq_ap]
  simp [-wSeq_ap, cl]
  refine pull (Sto.set_self hr).symm ok (by omega) (by omega) (by omega) (fun at' r1 a1 b1 ok1 => ?_)
  rw [wSeq_ap]
  simp [-wSeq_ap]
  refine pull rfl ok1 (by omega) (by omega) (by omega) (fun si r2 a2 b2 ok2 => ?_)
  obtain ⟨sg, hsg0, esg⟩ := atI_str (L := [Str.ofString " ", Str.ofString "0", Str.ofString "1", Str.ofString "7", Str.ofString "9", Str.ofString ",", Str.ofString "a", Str.ofString "z", Str.ofString "A", Str.ofString "-", Str.ofString "\n", Str.ofString "+", Str.ofString ".", Str.ofString "_"]) a2 (by simp; omega)
  simp only [List.map_cons, List.map_nil] at esg
  rw [ixD_lst, esg, on_some]
  have hsg := sgs sg hsg0
  refine seq_via (fun e' st' => ∃ sg r' w5, Bt 1 sg ∧ PotOk (b + 4) r' ∧ st' = st.set a (.lst r') ∧ e' = [some (.ref a), some (.str t), some (.int at'), some (.str sg), none, w5]) ?_ ?_
  · intro M hM
    simp [-wSeq_ap]
    refine pull rfl ok2 (by omega) (by omega) (by omega) (fun z r3 a3 b3 ok3 => ?_)
    by_cases cz : z = 0
    · simp [cz, -wSeq_ap]
      rw [wSeq_ap]
      simp [-wSeq_ap]
      rw [wSeq_ap]
      simp [-wSeq_ap]
      rw [dAdd_strs (by decide +kernel), on_some]
      have hS : asc (Str.ofString " !\"#$&'()*+,-./0123456789:;<=>?@ABCDEFGHIJKLMNOPQRSTUVWXYZ[\\]^_`" ++ Str.ofString "abcdefghijklmnopqrstuvwxyz{|}~\n") := by decide +kernel
      have hS2 : 0 < (Str.ofString " !\"#$&'()*+,-./0123456789:;<=>?@ABCDEFGHIJKLMNOPQRSTUVWXYZ[\\]^_`" ++ Str.ofString "abcdefghijklmnopqrstuvwxyz{|}~\n").length ∧ (Str.ofString " !\"#$&'()*+,-./0123456789:;<=>?@ABCDEFGHIJKLMNOPQRSTUVWXYZ[\\]^_`" ++ Str.ofString "abcdefghijklmnopqrstuvwxyz{|}~\n").length ≤ 200 := by decide +kernel
      generalize Str.ofString " !\"#$&'()*+,-./0123456789:;<=>?@ABCDEFGHIJKLMNOPQRSTUVWXYZ[\\]^_`" ++ Str.ofString "abcdefghijklmnopqrstuvwxyz{|}~\n" = S at *
      have cS : ∀ st, cLen st [.str S] = some (.int S.length) := fun st => by simp [cLen, lenD]; omega
      rw [cS, on_some]
      refine pull rfl ok3 (by omega) (by omega) (by omega) (fun z r4 a4 b4 ok4 => ?_)
      obtain ⟨c, hc, ec⟩ := ix_str a4 b4 (by omega)
      rw [ec, on_some]
      exact hM _ _ ⟨_, r4, _, bt_one hS hc, ok4, rfl, rfl⟩
    · simp [cz, -wSeq_ap]
      exact hM _ _ ⟨sg, r3, none, hsg, ok3.mono (by omega), rfl, rfl⟩
  clear hsg hsg0 esg sg ok2 r2
  rintro e' st' ⟨sg, r4, w8, hsg, ok4, rfl, rfl⟩
  rw [wSeq_ap]
  simp [-wSeq_ap]
  refine pull rfl ok4 (by omega) (by omega) (by omega) (fun way r6 a6 b6 ok6 => ?_)
  replace ok6 := ok6.mono (b' := b + 6) (by omega)
  have hto : ∀ {n : Nat}, Tx L K (txt ((TL.tl t).take n)) := ⟨hB.to, hT.2.take⟩
  have hfrom : ∀ {n : Nat}, Tx L K (txt ((TL.tl t).drop n)) := ⟨hB.from, hT.2.drop⟩
  have hs1 := Tx.of hsg
  rw [wSeq_ap]
  by_cases c0 : way = 0
  · simp [c0]
    rw [sl_to a1 (by omega), on_some, sl_from (by omega) (by omega), on_some, dAdd_strs (by have := (hto (n := at'.toNat)).1.1; have := (hfrom (n := (at' + 1).toNat)).1.1; omega), on_some]
    exact fin ((hto.cat hfrom).mono (by omega) (by omega)) (ok6.mono (by omega))
  simp [c0, -wSeq_ap]
  rw [wSeq_ap]
  by_cases c1 : way < 3
  · simp [c1]
    rw [sl_to a1 (by omega), on_some, dAdd_strs (by have := (hto (n := at'.toNat)).1.1; have := hsg.1; omega), on_some, sl_from (by omega) (by omega), on_some, dAdd_strs (by have := (hto (n := at'.toNat).cat hs1).1.1; have := (hfrom (n := (at' + way - 1).toNat)).1.1; omega), on_some]
    exact fin (((hto.cat hs1).cat hfrom).mono (by omega) (by omega)) (ok6.mono (by omega))
  simp [c1, -wSeq_ap]
  rw [wSeq_ap]
  by_cases c3 : way = 3
  · simp [c3]
    rw [sl_to a1 (by omega), on_some, sl_mid a1 (by omega) (by omega), on_some]
    have hm : Bt 2 (txt (((TL.tl t).drop at'.toNat).take ((at' + 2).toNat - at'.toNat))) := hB.mid.mono (by omega)
    have hr2 := Tx.of hm.rev
    have er : ∀ {st x}, Bt 2 x → dRevS st (.str x) = some (.str (revS x)) := fun {st x} h => by
      unfold dRevS
      simp only
      rw [if_pos (by have := h.1; omega)]
    rw [er hm, on_some, dAdd_strs (by have := (hto (n := at'.toNat)).1.1; have := hr2.1.1; omega), on_some, sl_from (by omega) (by omega), on_some, dAdd_strs (by have := (hto (n := at'.toNat).cat hr2).1.1; have := (hfrom (n := (at' + 2).toNat)).1.1; omega), on_some]
    exact fin (((hto.cat hr2).cat hfrom).mono (by omega) (by omega)) (ok6.mono (by omega))
  simp [c3, -wSeq_ap]
  rw [wSeq_ap]
  by_cases c4 : way = 4
  · simp [c4]
    have h1 : Bt 1 (Str.ofString " ") := by decide +kernel
    have h2 : Bt 2 (Str.ofString "  ") := by decide +kernel
    have h3 : Bt 1 (Str.ofString "\n") := by decide +kernel
    have h4 : Bt 2 (Str.ofString "\n-") := by decide +kernel
    have er : ∀ st, dRepl1 (Str.ofString " ") (Str.ofString "  ") st (.str t) = some (.str (repl1 t (Str.ofString " ") (Str.ofString "  "))) := fun st => by
      unfold dRepl1
      simp only
      rw [if_pos (by have := h2.1; omega)]
    rw [dAdd_strs (by have := h3.1; omega), on_some, dAdd_strs (by have := h3.1; omega), on_some, dAdd_strs (by have := h1.1; omega), on_some, er, on_some, dAdd_strs (by have := h4.1; omega), on_some]
    refine pull rfl ok6 (by omega) (by omega) (by omega) (fun z r7 a7 b7 ok7 => ?_)
    obtain ⟨o, ho, eo⟩ := atI_str (L := [Str.ofString "\n" ++ t, t ++ Str.ofString "\n", t ++ Str.ofString " ", repl1 t (Str.ofString " ") (Str.ofString "  "), t ++ Str.ofString "\n-"]) a7 (by simp; omega)
    simp only [List.map_cons, List.map_nil] at eo
    rw [ixD_lst, eo, on_some]
    refine fin ?_ (ok7.mono (by omega))
    simp only [List.mem_cons, List.not_mem_nil, or_false] at ho
    rcases ho with rfl | rfl | rfl | rfl | rfl
    · exact ((Tx.of h3).cat hT).mono (by omega) (by omega)
    · exact (hT.cat (Tx.of h3)).mono (by omega) (by omega)
    · exact (hT.cat (Tx.of h1)).mono (by omega) (by omega)
    · exact ⟨(hB.repl h2).mono (by omega), hT.2.repl.mono (by have := h2.1; omega)⟩
    · exact (hT.cat (Tx.of h4)).mono (by omega) (by omega)
  simp [c4, tyNm]
  rw [ems, on_some]
  dsimp only
  refine line rfl ok6 (by omega) (List.length_pos_iff.mpr hW) (fun l hl => ⟨hLn l hl, hA l hl⟩) (Nat.le_refl _) (by omega) (fun ls' r7 g1 g2 g3 => ?_)
  rw [join_J (by decide +kernel) (by omega), on_some]
  refine fin ⟨⟨Nat.le_trans (J_join (by decide +kernel)) (by have := hB.1; omega), join_asc (by decide +kernel) fun w hw => (g1 w hw).2⟩, ?_⟩ (g3.mono (by omega))
  rw [join_tl, show TL.tl (Str.ofString "\n") = [10] by decide +kernel]
  refine Sg.join fun l hl => ?_
  obtain ⟨w, hw, rfl⟩ := List.mem_map.mp hl
  exact Sg.len (by rw [← TL.len_tl]; exact (g1 w hw).1)
end
theorem law_true (script : List Int) (hl : script.length ≤ 63) : F_law [.kl (script.map D.int)] (fun _ => none) XF (fun d _ => d = .bl true) := by
  have sz := sizeLine_eq
  have right : ∀ {m : Int} {t : Str} {st : Sto} {X : PoX} {Q : PoE}, m ≤ 60 → Tx 1000000 640 t → Q (.bl true) st → F__law_right [.str t, .int m] st X Q := fun {m t st X Q} h1 h2 hq => ap_right h1 h2.1.1 (fun y hy => h2.2.lines ⟨by decide +kernel, by have := h2.1.1; omega, by decide +kernel⟩ y hy) hq
  have bent : ∀ {a : Addr} {r : List D} {b L K : Nat} {t : Str} {st : Sto} {X : PoX} {Q : PoE}, st a = some (.lst r) → PotOk b r → b ≤ 10 ^ 12 → Tx L K t → L ≤ 10000 → K ≤ 1000 → (∀ t' r', Tx (4 * L + 4 * K + 100) (2 * K + 20) t' → PotOk (b + 20) r' → Q (.str t') (st.set a (.lst r'))) → F__law_bent [.ref a, .str t] st X Q := fun h1 h2 h3 h4 h5 h6 h7 => ap_bent h1 h2 h3 h4 h5 h6 h7
  have any_deed : ∀ {m : Int} {a : Addr} {r : List D} {b : Nat} {st : Sto} {X : PoX} {Q : PoE}, st a = some (.lst r) → PotOk b r → b ≤ 10 ^ 13 → 1 ≤ m → m ≤ 7 → (∀ w ps r', RowIn m T_dtexts w ps → PotOk (b + 30) r' → Q (Rw2.d (w, ps)) (st.set a (.lst r'))) → F__law_any_deed [.ref a, .int m] st X Q := fun h1 h2 h3 h4 h5 h6 => ap_any_deed h1 h2 h3 h4 h5 h6
  have any_entry : ∀ {m : Int} {a : Addr} {r : List D} {b : Nat} {st : Sto} {X : PoX} {Q : PoE}, st a = some (.lst r) → PotOk b r → b ≤ 10 ^ 13 → 1 ≤ m → m ≤ 7 → (∀ w ps r', RowIn m T_etexts w ps → PotOk (b + 60) r' → Q (Rw2.d (w, ps)) (st.set a (.lst r'))) → F__law_any_entry [.ref a, .int m] st X Q := fun h1 h2 h3 h4 h5 h6 => ap_any_entry h1 h2 h3 h4 h5 h6
  have shown : ∀ {m : Int} {tab : TabS} {w : Str} {ps : List Pt} {st : Sto} {X : PoX} {Q : PoE}, RowIn m tab w ps → Q (.str (rowT (.nam w :: ps))) st → F__law_shown [Rw2.d (w, ps)] st X Q := fun {m tab w ps st X Q} h hq => ap_law_shown (ps := .nam w :: ps) (rowIn_ok h) (by have := h.2.1; simp; omega) hq
  simp only [F_law, wDef_ap]
  generalize F__law_right = F1 at *
  generalize F__law_bent = F2 at *
  generalize F__law_any_deed = F6 at *
  generalize F__law_any_entry = F7 at *
  generalize F__law_shown = F8 at *
  refine ⟨rfl, ?_⟩
  rw [wSeq_ap]
  simp [-wSeq_ap]
  have ecut : cutD (script.map D.int) none (some 10) = (script.take 10).map D.int := by rw [cutD_to (by omega), List.map_take]; rfl
  rw [ecut, dAdd_lst (by simp; omega), on_some]
  have ecells : (script.take 10).map D.int ++ [.int (script.length : Int)] = (script.take 10 ++ [(script.length : Int)]).map D.int := by simp
  rw [ecells, sqOf_lst, on_some]
  generalize script.take 10 ++ [(script.length : Int)] = cells
  refine wForL_typed (enc := D.int) (fun rest e' st' => ∃ w7, e' = [some (D.kl (script.map D.int)), none, none, none, none, none, none, w7, none, none]) (fun _ _ _ _ => rfl) ?_ ?_ _ _ _ ⟨none, rfl⟩
  · rintro e' st ⟨w7, rfl⟩
    simp
  · rintro c rest e' st N ⟨w0, rfl⟩ hN
    simp [-wSeq_ap]
    rw [wSeq_ap]
    simp [-wSeq_ap]
    refine ap_pot (fun p r hp ok => ?_)
    rw [wSeq_ap]
    simp [-wSeq_ap]
    refine ap_pull Sto.set_same ok (by omega) (by omega) (by omega) (fun n1 r1 h0 h1 ok1 => ?_)
    simp only [dAdd_int, on_some, Sto.set_set]
    have m1 : 1 ≤ 1 + n1 := by omega
    have m7 : 1 + n1 ≤ 7 := by omega
    generalize 1 + n1 = many at *
    rw [wSeq_ap]
    simp [-wSeq_ap]
    rw [rangeOf_1 (by omega) (by omega), on_some, rangeL_map]
    refine wForL_typed (enc := D.int) (fun rest e' st' => ∃ (r' : List D), PotOk (4000 + 600 * (8 - rest.length)) r' ∧ rest.length ≤ 8 ∧ (∃ w7, e' = [some (D.kl (List.map D.int script)), some (D.int c), some (D.ref p), some (D.int many), none, none, none, w7, none, none]) ∧ st' = st.set p (.lst r')) (fun _ _ _ _ => trivial) ?_ ?_ _ _ _
      ⟨r1, ok1.mono (by omega), by rw [rangeI_len]; simp, ⟨w0, rfl⟩, rfl⟩
    · rintro e' st' ⟨r3, ok3, _, ⟨w7, rfl⟩, rfl⟩
      dsimp only
      rw [wSeq_ap]
      simp [-wSeq_ap]
      have e1 : ([.str (Str.ofString ""), .str (Str.ofString " "), .str (Str.ofString "--"), .str (Str.ofString "- "), .str (Str.ofString "-\n"), .str (Str.ofString "\n"), .str (Str.ofString "-\n-"), .str (Str.ofString "ask ab 0 joe 3"), .str (Str.ofString "ask ab 1 joe 0"), .str (Str.ofString "back ab 1\n"), .str (Str.ofString "back ab")] : List D) = [Str.ofString "", Str.ofString " ", Str.ofString "--", Str.ofString "- ", Str.ofString "-\n", Str.ofString "\n", Str.ofString "-\n-", Str.ofString "ask ab 0 joe 3", Str.ofString "ask ab 1 joe 0", Str.ofString "back ab 1\n", Str.ofString "back ab"].map D.str := rfl
      have l1 : ∀ x ∈ [Str.ofString "", Str.ofString " ", Str.ofString "--", Str.ofString "- ", Str.ofString "-\n", Str.ofString "\n", Str.ofString "-\n-", Str.ofString "ask ab 0 joe 3", Str.ofString "ask ab 1 joe 0", Str.ofString "back ab 1\n", Str.ofString "back ab"], x.length ≤ 640 ∧ asc x := by decide +kernel
      have z1 : [Str.ofString "", Str.ofString " ", Str.ofString "--", Str.ofString "- ", Str.ofString "-\n", Str.ofString "\n", Str.ofString "-\n-", Str.ofString "ask ab 0 joe 3", Str.ofString "ask ab 1 joe 0", Str.ofString "back ab 1\n", Str.ofString "back ab"].length ≤ 20 := by decide
      rw [e1]
      generalize [Str.ofString "", Str.ofString " ", Str.ofString "--", Str.ofString "- ", Str.ofString "-\n", Str.ofString "\n", Str.ofString "-\n-", Str.ofString "ask ab 0 joe 3", Str.ofString "ask ab 1 joe 0", Str.ofString "back ab 1\n", Str.ofString "back ab"] = L1 at *
      intro q1 hq1
      obtain ⟨hp1, hq1⟩ := set_none hq1
      rw [wSeq_ap]
      simp [-wSeq_ap, cellL]
      have e2 : ([.str (Str.ofString "no ab 1 7"), .str (Str.ofString "word ab 0 0 3"), .str (Str.ofString "free ab 0 1\n\nfree ab 0 1"), .str (Str.ofString "free ab 0 1\n-"), .str (Str.ofString "got ab 1 00 3")] : List D) = [Str.ofString "no ab 1 7", Str.ofString "word ab 0 0 3", Str.ofString "free ab 0 1\n\nfree ab 0 1", Str.ofString "free ab 0 1\n-", Str.ofString "got ab 1 00 3"].map D.str := rfl
      have l2 : ∀ x ∈ [Str.ofString "no ab 1 7", Str.ofString "word ab 0 0 3", Str.ofString "free ab 0 1\n\nfree ab 0 1", Str.ofString "free ab 0 1\n-", Str.ofString "got ab 1 00 3"], x.length ≤ 640 ∧ asc x := by decide +kernel
      rw [e2, if_pos (by omega), on_some, ← List.map_append]
      replace l2 : ∀ x ∈ L1 ++ [Str.ofString "no ab 1 7", Str.ofString "word ab 0 0 3", Str.ofString "free ab 0 1\n\nfree ab 0 1", Str.ofString "free ab 0 1\n-", Str.ofString "got ab 1 00 3"], x.length ≤ 640 ∧ asc x := fun x hx => (List.mem_append.mp hx).elim (l1 x) (l2 x)
      have z2 : (L1 ++ [Str.ofString "no ab 1 7", Str.ofString "word ab 0 0 3", Str.ofString "free ab 0 1\n\nfree ab 0 1", Str.ofString "free ab 0 1\n-", Str.ofString "got ab 1 00 3"]).length ≤ 30 := by simp; omega
      generalize L1 ++ [Str.ofString "no ab 1 7", Str.ofString "word ab 0 0 3", Str.ofString "free ab 0 1\n\nfree ab 0 1", Str.ofString "free ab 0 1\n-", Str.ofString "got ab 1 00 3"] = L2 at *
      intro q2 hq2
      obtain ⟨hp2, hq2⟩ := set_none hq2
      obtain ⟨hp3, hq2⟩ := set_none hq2
      rw [wSeq_ap]
      simp [-wSeq_ap, cellL]
      have e3 : ([.str (Str.ofString "back ab 1 "), .str (Str.ofString "Back ab 1"), .str (Str.ofString "back abcdefghi 1"), .str (Str.ofString "back ab +1")] : List D) = [Str.ofString "back ab 1 ", Str.ofString "Back ab 1", Str.ofString "back abcdefghi 1", Str.ofString "back ab +1"].map D.str := rfl
      have l3 : ∀ x ∈ [Str.ofString "back ab 1 ", Str.ofString "Back ab 1", Str.ofString "back abcdefghi 1", Str.ofString "back ab +1"], x.length ≤ 640 ∧ asc x := by decide +kernel
      rw [e3, if_pos (by omega), on_some, ← List.map_append]
      replace l3 : ∀ x ∈ L2 ++ [Str.ofString "back ab 1 ", Str.ofString "Back ab 1", Str.ofString "back abcdefghi 1", Str.ofString "back ab +1"], x.length ≤ 640 ∧ asc x := fun x hx => (List.mem_append.mp hx).elim (l2 x) (l3 x)
      have z3 : (L2 ++ [Str.ofString "back ab 1 ", Str.ofString "Back ab 1", Str.ofString "back abcdefghi 1", Str.ofString "back ab +1"]).length ≤ 40 := by simp; omega
      generalize L2 ++ [Str.ofString "back ab 1 ", Str.ofString "Back ab 1", Str.ofString "back abcdefghi 1", Str.ofString "back ab +1"] = L3 at *
      intro q3 hq3
      obtain ⟨hp4, hq3⟩ := set_none hq3
      obtain ⟨hp5, hq3⟩ := set_none hq3
      obtain ⟨hp6, hq3⟩ := set_none hq3
      rw [wSeq_ap]
      simp [-wSeq_ap]
      refine ⟨ls_ty Sto.set_same, ?_⟩
      refine any_deed (r := r3) (by rw [Sto.set_ne (Ne.symm hp6), Sto.set_ne (Ne.symm hp3), Sto.set_ne (Ne.symm hp1), Sto.set_same]) ok3 (by simp) m1 m7 (fun w ps r4 hw ok4 => ?_)
      refine shown hw ?_
      have hrow := drow_bt m7 hw
      generalize rowT (.nam w :: ps) = x at *
      have hq3s : (((((st.set p (.lst r3)).set q1 (.lst (L1.map D.str))).set q2 (.lst (L2.map D.str))).set q3 (.lst (L3.map D.str))).set p (.lst r4)) q3 = some (.lst (L3.map D.str)) := by rw [Sto.set_ne hp6, Sto.set_same]
      rw [ls_app hq3s (by simp; omega), on_some]
      dsimp only
      have e4 : L3.map D.str ++ [.str x] = (L3 ++ [x]).map D.str := by rw [List.map_append]; rfl
      have l4 : ∀ y ∈ L3 ++ [x], y.length ≤ 640 ∧ asc y := fun y hy => (List.mem_append.mp hy).elim (l3 y) fun h => by rw [List.mem_singleton.mp h]; exact ⟨by have := hrow.1; omega, hrow.2⟩
      rw [e4]
      generalize L3 ++ [x] = L4 at *
      rw [Sto.set_same]
      simp only [cellL, on_some]
      refine compL_imp (enc := D.str) (fun t => [some (D.kl (List.map D.int script)), some (D.int c), some (D.ref p), some (D.int many), none, some (D.ref q3), none, some (D.str t), none, none]) (fun _ => false) D.str ?_ ?_ ?_ ?_ ?_
      · simp
      · intro t ht Q hq
        simp
        refine right (by omega) ((Tx.of ⟨(l4 t ht).1, (l4 t ht).2⟩).mono (by omega) (by omega)) ?_
        simpa using hq
      · intro t ht z
        cases z
      · rw [Sto.set_same]
      · rw [List.nil_append, List.filter_eq_nil_iff.mpr (fun _ _ => by simp), List.map_nil, dNe_lnil (by rfl), on_some]
        simp
        exact hN _ _ ⟨_, rfl⟩
    · rintro y rest e' st' N2 ⟨r', ok', hlen, ⟨w7, rfl⟩, rfl⟩ hN2
      simp at hlen
      simp [-wSeq_ap]
      rw [wSeq_ap]
      simp [-wSeq_ap]
      refine ap_pull Sto.set_same ok' (by omega) (by omega) (by omega) (fun size r4 h4 h5 ok4 => ?_)
      simp only [Sto.set_set]
      rw [rangeOf_1 (by omega) (by omega), on_some, rangeL_map]
      refine compL_inv (enc := D.int) (fun acc rest' st' => ∃ (rs : List Rw2) (r' : List D), acc = rs.map Rw2.d ∧ st' = st.set p (.lst r') ∧ PotOk (4000 + 600 * (8 - (rest.length + 1)) + 1 + 60 * rs.length) r' ∧ (∀ r ∈ rs, RowIn many T_etexts r.1 r.2) ∧ rs.length + rest'.length = size.toNat) (fun _ _ _ _ => trivial) ?_ ?_ _ _ _ ⟨[], r4, rfl, rfl, ok4.mono (by simp), fun _ h => (by cases h), by rw [rangeI_len, Int.sub_zero]; exact Nat.zero_add _⟩
      rotate_left
      · rintro y rest' acc st' N3 ⟨rs, r5, rfl, rfl, ok5, g1, g2⟩ hN3
        simp at g2
        simp
        refine any_entry Sto.set_same ok5 (by omega) m1 m7 (fun w ps r'' hw ok'' => ?_)
        rw [Sto.set_set]
        refine hN3 _ _ ⟨rs ++ [(w, ps)], r'', by simp, rfl, ok''.mono (by simp; omega), fun r hr => ?_, by simp; omega⟩
        rcases List.mem_append.mp hr with h | h
        · exact g1 r h
        · rw [List.mem_singleton.mp h]; exact hw
      rintro acc st' ⟨rs, r5, rfl, rfl, ok5, g1, g2⟩
      simp at g2
      rw [wSeq_ap]
      simp [-wSeq_ap, -List.map_map]
      refine compL_imp (enc := Rw2.d) (fun r => [some (D.kl (List.map D.int script)), some (D.int c), some (D.ref p), some (D.int many), some (.int y), none, some (.lst (rs.map Rw2.d)), w7, none, some r.d]) (fun _ => true) (fun r => .str r.t) ?_ ?_ ?_ trivial ?_
      · intro r _
        simp
      · intro r _ Q hq
        simpa using hq
      · intro r hr _ Q hq
        simp
        exact shown (g1 r hr) hq
      have ef : (rs.filter fun _ => true).map (fun r => D.str r.t) = (rs.map Rw2.t).map D.str := by
        rw [List.filter_eq_self.mpr fun _ _ => rfl, List.map_map]
        rfl
      have hrt : ∀ x ∈ rs.map Rw2.t, Bt 137 x := fun x hx => by
        obtain ⟨r, hr, rfl⟩ := List.mem_map.mp hx
        exact erow_bt m7 (g1 r hr)
      have hJr := J_le (ws := rs.map Rw2.t) (k := 137) fun x hx => (hrt x hx).1
      rw [List.length_map] at hJr
      have hJr2 : J (rs.map Rw2.t) ≤ 690 := by
        have : rs.length * (137 + 1) ≤ 5 * (137 + 1) := Nat.mul_le_mul_right _ (by omega)
        omega
      rw [List.nil_append, ef, join_J (by decide +kernel) (by omega), on_some]
      dsimp only
      have hT : Tx 700 137 (Txt.join (Str.ofString "\n") (rs.map Rw2.t)) := by
        refine ⟨⟨Nat.le_trans (J_join (by decide +kernel)) (by omega), join_asc (by decide +kernel) fun w hw => (hrt w hw).2⟩, ?_⟩
        rw [join_tl, show TL.tl (Str.ofString "\n") = [10] by decide +kernel]
        refine Sg.join fun l hl => ?_
        obtain ⟨w, hw, rfl⟩ := List.mem_map.mp hl
        exact Sg.len (by rw [← TL.len_tl]; exact (hrt w hw).1)
      refine seq_via (fun e' st' => ∃ t0, Tx 700 137 t0 ∧ st' = st.set p (.lst r5) ∧ e' = [some (D.kl (List.map D.int script)), some (D.int c), some (D.ref p), some (D.int many), some (.int y), none, some (.lst (rs.map Rw2.d)), some (.str t0), none, none]) ?_ ?_
      · intro M hM
        simp [-List.map_map]
        rw [dEq_lnil (plL_map fun r _ => pl_rowD (n := 59)), on_some]
        cases hrs : (rs.map Rw2.d).isEmpty with
        | true =>
          simp
          exact hM _ _ ⟨_, ⟨by decide +kernel, Sg.len (by decide +kernel)⟩, rfl, rfl⟩
        | false =>
          simp
          exact hM _ _ ⟨_, hT, rfl, rfl⟩
      rintro e' st' ⟨t0, ht0, rfl, rfl⟩
      rw [wSeq_ap]
      simp [-List.map_map]
      refine bent Sto.set_same ok5 (by simp; omega) ht0 (by omega) (by omega) (fun t1 r6 ht1 ok6 => ?_)
      simp [-List.map_map]
      refine right (by omega) (ht1.mono (by omega) (by omega)) ?_
      simp [-List.map_map]
      refine bent Sto.set_same ok6 (by simp; omega) ht1 (by omega) (by omega) (fun t2 r7 ht2 ok7 => ?_)
      refine right (by omega) (ht2.mono (by omega) (by omega)) ?_
      simp
      refine hN2 _ _ ⟨r7, ok7.mono (by simp; omega), by omega, ⟨_, rfl⟩, rfl⟩
end Wk49
namespace Wk49
open PySem PySem.Spec PyProof.Rows L2 DL
section
variable {P : Program} {w : World} {K : PySem.W.Frag} {mg : Str → Option Value} {base : Heap}
theorem ok_is_whole {f : Addr} {fd : FuncData} (hm : mg "is_whole" = some (.ref f)) (F : FunD K "is_whole" "is_whole" (defArgs s_is_whole) (defBody s_is_whole) (defScope s_is_whole) [] [] f fd) (fr : Frees mg) :
    Good P w K mg base 1 "is_whole" 1 F_is_whole := by
  have S : FnScope ["thing"] ["thing"] (defScope s_is_whole) := ⟨rfl, rfl, rfl, by decide +kernel, rfl, by decide +kernel, by decide +kernel⟩
  have hN := S.nd
  refine good_def hm F (F.bindsN (ps := ["thing"]) fun _ _ _ _ _ _ us hl => match us, hl with | [_], _ => rfl) S rfl rfl fun cdv A outer s H E hr hp hx hu ht => ?_
  exact (b_one (s_ret (e_and (e_isi fr (a_cons (e_var 0) (a_cons (e_tint fr) a_nil))) (e_one (e_not (e_isi fr (a_cons (e_var 0) (a_cons (e_tbool fr) a_nil))))))))
theorem ok_is_name {f : Addr} {fd : FuncData} (hm : mg "is_name" = some (.ref f)) (F : FunD K "is_name" "is_name" (defArgs s_is_name) (defBody s_is_name) (defScope s_is_name) [] [] f fd) (fr : Frees mg) (c_LONGEST : ∃ t, mg "LONGEST" = some (.int 8 t)) (c_LETTERS : ∃ t, mg "LETTERS" = some (.str "abcdefghijklmnopqrstuvwxyz" t)) :
    Good P w K mg base 1 "is_name" 1 F_is_name := by
  have S : FnScope ["thing", "sign"] ["thing"] (defScope s_is_name) := ⟨rfl, rfl, rfl, by decide +kernel, rfl, by decide +kernel, by decide +kernel⟩
  have hN := S.nd
  refine good_def hm F (F.bindsN (ps := ["thing"]) fun _ _ _ _ _ _ us hl => match us, hl with | [_], _ => rfl) S rfl rfl fun cdv A outer s H E hr hp hx hu ht => ?_
  exact (b_cons (s_if (t_w (w_or (t_not (t_tru (e_isi fr (a_cons (e_var 0) (a_cons (e_tstr fr) a_nil))))) (w_or1 (t_not (t_chain op_le dLe_ok op_le dLe_ok e_int (e_len fr (a_cons (e_var 0) a_nil)) (e_gint c_LONGEST)))))) (b_one (s_ret e_bl)) b_nil) (b_one (s_ret (e_eq hu (e_comp [("sign", 1)] rfl hN (i_str (e_var 0)) (by kernel_rfl) (fun _ _ _ _ _ => (g_nm 1 hN)) (fun _ _ _ _ _ => (ts_one (t_nin hu (e_var 1) (e_gstr c_LETTERS)))) (fun _ _ _ _ _ => (e_var 1))) (e_lst a_nil)))))
theorem ok_is_house {f : Addr} {fd : FuncData} (hm : mg "is_house" = some (.ref f)) (F : FunD K "is_house" "is_house" (defArgs s_is_house) (defBody s_is_house) (defScope s_is_house) [] [] f fd) (fr : Frees mg) (G_is_whole : Good P w K mg base 1 "is_whole" 1 F_is_whole) :
    Good P w K mg base 2 "is_house" 2 F_is_house := by
  have S : FnScope ["many", "thing"] ["many", "thing"] (defScope s_is_house) := ⟨rfl, rfl, rfl, by decide +kernel, rfl, by decide +kernel, by decide +kernel⟩
  have hN := S.nd
  refine good_def hm F (F.bindsN (ps := ["many", "thing"]) fun _ _ _ _ _ _ us hl => match us, hl with | [_, _], _ => rfl) S rfl rfl fun cdv A outer s H E hr hp hx hu ht => ?_
  exact (b_one (s_ret (e_and (e_call G_is_whole hr hx (a_cons (e_var 1) a_nil)) (e_one (e_chain op_le dLe_ok op_ltD dLt_ok e_int (e_var 1) (e_var 0))))))
theorem ok_is_side {f : Addr} {fd : FuncData} (hm : mg "is_side" = some (.ref f)) (F : FunD K "is_side" "is_side" (defArgs s_is_side) (defBody s_is_side) (defScope s_is_side) [] [] f fd) (fr : Frees mg) (G_is_house : Good P w K mg base 2 "is_house" 2 F_is_house) :
    Good P w K mg base 3 "is_side" 2 F_is_side := by
  have S : FnScope ["many", "thing", "house"] ["many", "thing"] (defScope s_is_side) := ⟨rfl, rfl, rfl, by decide +kernel, rfl, by decide +kernel, by decide +kernel⟩
  have hN := S.nd
  refine good_def hm F (F.bindsN (ps := ["many", "thing"]) fun _ _ _ _ _ _ us hl => match us, hl with | [_, _], _ => rfl) S rfl rfl fun cdv A outer s H E hr hp hx hu ht => ?_
  exact (b_cons (s_if (t_w (w_or (t_not (t_tru (e_isi fr (a_cons (e_var 1) (a_cons (e_ttuple fr) a_nil))))) (w_or1 (t_ne hu (e_comp [("house", 2)] rfl hN (i_seq (e_var 1)) (by kernel_rfl) (fun _ _ _ _ _ => (g_nm 2 hN)) (fun _ _ _ _ _ => (ts_one (t_not (t_tru (e_call G_is_house hr passL (a_cons (e_var 0) (a_cons (e_var 2) a_nil))))))) (fun _ _ _ _ _ => (e_var 2))) (e_lst a_nil))))) (b_one (s_ret e_bl)) b_nil) (b_one (s_ret (e_and (e_chain op_ltD dLt_ok op_ltD dLt_ok e_int (e_len fr (a_cons (e_var 1) a_nil)) (e_var 0)) (e_one (e_eq hu (e_list fr (a_cons (e_var 1) a_nil)) (e_sortSet rfl fr (e_var 1))))))))
theorem ok_need {f : Addr} {fd : FuncData} (hm : mg "need" = some (.ref f)) (F : FunD K "need" "need" (defArgs s_need) (defBody s_need) (defScope s_need) [] [] f fd) (fr : Frees mg) (c_E : ExnOk K mg Y_all) :
    Good P w K mg base 1 "need" 1 F_need := by
  have S : FnScope ["truth"] ["truth"] (defScope s_need) := ⟨rfl, rfl, rfl, by decide +kernel, rfl, by decide +kernel, by decide +kernel⟩
  have hN := S.nd
  refine good_def hm F (F.bindsN (ps := ["truth"]) fun _ _ _ _ _ _ us hl => match us, hl with | [_], _ => rfl) S rfl rfl fun cdv A outer s H E hr hp hx hu ht => ?_
  exact (b_one (s_if (t_not (t_tru (e_var 0))) (b_one (s_raise c_E ht rfl)) b_nil))
theorem ok_number_of {f : Addr} {fd : FuncData} (hm : mg "number_of" = some (.ref f)) (F : FunD K "number_of" "number_of" (defArgs s_number_of) (defBody s_number_of) (defScope s_number_of) [] [] f fd) (fr : Frees mg) (c_FIGURES : ∃ t, mg "FIGURES" = some (.str "0123456789" t)) (G_need : Good P w K mg base 1 "need" 1 F_need) :
    Good P w K mg base 2 "number_of" 1 F_number_of := by
  have S : FnScope ["word", "sign"] ["word"] (defScope s_number_of) := ⟨rfl, rfl, rfl, by decide +kernel, rfl, by decide +kernel, by decide +kernel⟩
  have hN := S.nd
  refine good_def hm F (F.bindsN (ps := ["word"]) fun _ _ _ _ _ _ us hl => match us, hl with | [_], _ => rfl) S rfl rfl fun cdv A outer s H E hr hp hx hu ht => ?_
  exact (b_cons (s_expr (e_call G_need hr hx (a_cons (e_and (e_ne hu (e_var 0) e_str) (e_one (e_eq hu (e_comp [("sign", 1)] rfl hN (i_str (e_var 0)) (by kernel_rfl) (fun _ _ _ _ _ => (g_nm 1 hN)) (fun _ _ _ _ _ => (ts_one (t_nin hu (e_var 1) (e_gstr c_FIGURES)))) (fun _ _ _ _ _ => (e_var 1))) (e_lst a_nil)))) a_nil))) (b_cons (s_expr (e_call G_need hr hx (a_cons (e_or (e_eq hu (e_var 0) e_str) (e_one (e_ne hu (e_ix hu (e_var 0) e_int) e_str))) a_nil))) (b_one (s_ret (e_tointT fr (a_cons (e_var 0) a_nil))))))
theorem ok_part_of {f : Addr} {fd : FuncData} (hm : mg "part_of" = some (.ref f)) (F : FunD K "part_of" "part_of" (defArgs s_part_of) (defBody s_part_of) (defScope s_part_of) [] [] f fd) (fr : Frees mg) (G_need : Good P w K mg base 1 "need" 1 F_need) (G_is_name : Good P w K mg base 1 "is_name" 1 F_is_name) (G_number_of : Good P w K mg base 2 "number_of" 1 F_number_of) (G_is_side : Good P w K mg base 3 "is_side" 2 F_is_side) (G_is_house : Good P w K mg base 2 "is_house" 2 F_is_house) :
    Good P w K mg base 4 "part_of" 3 F_part_ofX := by
  have S : FnScope ["many", "form", "word", "number", "side", "one"] ["many", "form", "word"] (defScope s_part_of) := ⟨rfl, rfl, rfl, by decide +kernel, rfl, by decide +kernel, by decide +kernel⟩
  have hN := S.nd
  refine good_def hm F (F.bindsN (ps := ["many", "form", "word"]) fun _ _ _ _ _ _ us hl => match us, hl with | [_, _, _], _ => rfl) S rfl rfl fun cdv A outer s H E hr hp hx hu ht => ?_
  exact (b_cons (s_if (t_eq hu (e_var 1) e_str) (b_cons (s_expr (e_call G_need hr hx (a_cons (e_call G_is_name hr hx (a_cons (e_var 2) a_nil)) a_nil))) (b_one (s_ret (e_var 2)))) b_nil) (b_cons (s_if (t_eq hu (e_var 1) e_str) (b_cons (s_set 4 hN (e_tuple fr (a_cons (e_compX ht [("one", 5)] rfl hN (i_seq (e_split (e_var 2) (a_cons e_str a_nil))) (by kernel_rfl) (fun _ _ _ _ _ => (g_nm 5 hN)) (fun _ _ _ _ _ => ts_nil) (fun _ _ _ _ _ hxC => (e_call G_number_of hr hxC (a_cons (e_var 5) a_nil)))) a_nil))) (b_cons (s_expr (e_call G_need hr hx (a_cons (e_call G_is_side hr hx (a_cons (e_var 0) (a_cons (e_var 4) a_nil))) a_nil))) (b_one (s_ret (e_var 4))))) b_nil) (b_cons (s_set 3 hN (e_call G_number_of hr hx (a_cons (e_var 2) a_nil))) (b_cons (s_expr (e_call G_need hr hx (a_cons (e_or (e_eq hu (e_var 1) e_str) (e_or (e_and (e_eq hu (e_var 1) e_str) (e_one (e_gt (e_var 3) e_int))) (e_one (e_and (e_eq hu (e_var 1) e_str) (e_one (e_call G_is_house hr hx (a_cons (e_var 0) (a_cons (e_var 3) a_nil)))))))) a_nil))) (b_one (s_ret (e_var 3)))))))
theorem ok_row_of {f : Addr} {fd : FuncData} (hm : mg "row_of" = some (.ref f)) (F : FunD K "row_of" "row_of" (defArgs s_row_of) (defBody s_row_of) (defScope s_row_of) [] [] f fd) (fr : Frees mg) (G_need : Good P w K mg base 1 "need" 1 F_need) (G_part_of : Good P w K mg base 4 "part_of" 3 F_part_ofX) :
    Good P w K mg base 5 "row_of" 3 F_row_ofX := by
  have S : FnScope ["many", "forms", "text", "words", "form", "one", "word"] ["many", "forms", "text"] (defScope s_row_of) := ⟨rfl, rfl, rfl, by decide +kernel, rfl, by decide +kernel, by decide +kernel⟩
  have hN := S.nd
  refine good_def hm F (F.bindsN (ps := ["many", "forms", "text"]) fun _ _ _ _ _ _ us hl => match us, hl with | [_, _, _], _ => rfl) S rfl rfl fun cdv A outer s H E hr hp hx hu ht => ?_
  exact (b_cons (s_set 3 hN (e_split (e_var 2) (a_cons e_str a_nil))) (b_cons (s_expr (e_call G_need hr hx (a_cons (e_in hu (e_ix hu (e_var 3) e_int) (e_var 1)) a_nil))) (b_cons (s_set 4 hN (e_ix hu (e_var 1) (e_ix hu (e_var 3) e_int))) (b_cons (s_expr (e_call G_need hr hx (a_cons (e_eq hu (e_len fr (a_cons (e_var 3) a_nil)) (e_add e_int (e_len fr (a_cons (e_var 4) a_nil)))) a_nil))) (b_one (s_ret (e_tuple fr (a_cons (e_add (e_sl (e_var 3) o_no (o_part e_int)) (e_compX ht [("one", 5), ("word", 6)] rfl hN (i_zipL rfl fr.zip (a_cons (e_var 4) (a_cons (e_sl (e_var 3) (o_part e_int) o_no) a_nil))) (by kernel_rfl) (fun _ _ _ _ _ => (g_tp rfl (gs_cons (g_nm 5 hN) (gs_cons (g_nm 6 hN) gs_nil)))) (fun _ _ _ _ _ => ts_nil) (fun _ _ _ _ _ hxC => (e_call G_part_of hr hxC (a_cons (e_var 0) (a_cons (e_var 5) (a_cons (e_var 6) a_nil))))))) a_nil))))))))
theorem ok_read_log {f : Addr} {fd : FuncData} (hm : mg "read_log" = some (.ref f)) (F : FunD K "read_log" "read_log" (defArgs s_read_log) (defBody s_read_log) (defScope s_read_log) [] [] f fd) (fr : Frees mg) (c_ENTRIES : TabSOk K w mg "ENTRIES" T_etexts) (G_row_of : Good P w K mg base 5 "row_of" 3 F_row_ofX) :
    Good P w K mg base 6 "read_log" 2 F_read_logX := by
  have S : FnScope ["many", "text", "line"] ["many", "text"] (defScope s_read_log) := ⟨rfl, rfl, rfl, by decide +kernel, rfl, by decide +kernel, by decide +kernel⟩
  have hN := S.nd
  refine good_def hm F (F.bindsN (ps := ["many", "text"]) fun _ _ _ _ _ _ us hl => match us, hl with | [_, _], _ => rfl) S rfl rfl fun cdv A outer s H E hr hp hx hu ht => ?_
  exact (b_cons (s_if (t_eq hu (e_var 1) e_str) (b_one (s_ret (e_tup a_nil))) b_nil) (b_one (s_ret (e_tuple fr (a_cons (e_compX ht [("line", 2)] rfl hN (i_seq (e_split (e_var 1) (a_cons e_str a_nil))) (by kernel_rfl) (fun _ _ _ _ _ => (g_nm 2 hN)) (fun _ _ _ _ _ => ts_nil) (fun _ _ _ _ _ hxC => (e_call G_row_of hr hxC (a_cons (e_var 0) (a_cons (e_dictTab c_ENTRIES (by decide +kernel) fr) (a_cons (e_var 2) a_nil)))))) a_nil)))))
theorem ok__law_mixed {f : Addr} {fd : FuncData} (hm : mg "_law_mixed" = some (.ref f)) (F : FunD K "_law_mixed" "_law_mixed" (defArgs s__law_mixed) (defBody s__law_mixed) (defScope s__law_mixed) [] [] f fd) (fr : Frees mg) :
    Good P w K mg base 1 "_law_mixed" 2 F__law_mixed := by
  have S : FnScope ["cell", "k", "number"] ["cell", "k"] (defScope s__law_mixed) := ⟨rfl, rfl, rfl, by decide +kernel, rfl, by decide +kernel, by decide +kernel⟩
  have hN := S.nd
  refine good_def hm F (F.bindsN (ps := ["cell", "k"]) fun _ _ _ _ _ _ us hl => match us, hl with | [_, _], _ => rfl) S rfl rfl fun cdv A outer s H E hr hp hx hu ht => ?_
  exact (b_cons (s_set 2 hN (e_mod (e_mul (e_add (e_add (e_mod (e_var 0) e_int) (e_mul e_int (e_var 1))) e_int) e_int) e_int)) (b_cons (s_set 2 hN (e_mod (e_mul (e_var 2) (e_var 2)) e_int)) (b_one (s_ret (e_fdiv (e_mod (e_mul (e_add (e_var 2) (e_mul e_int (e_add (e_var 1) e_int))) e_int) e_int) e_int)))))
theorem ok__law_pot {f : Addr} {fd : FuncData} (hm : mg "_law_pot" = some (.ref f)) (F : FunD K "_law_pot" "_law_pot" (defArgs s__law_pot) (defBody s__law_pot) (defScope s__law_pot) [] [] f fd) (fr : Frees mg) :
    Good P w K mg base 1 "_law_pot" 1 F__law_pot := by
  have S : FnScope ["cell"] ["cell"] (defScope s__law_pot) := ⟨rfl, rfl, rfl, by decide +kernel, rfl, by decide +kernel, by decide +kernel⟩
  have hN := S.nd
  refine good_def hm F (F.bindsN (ps := ["cell"]) fun _ _ _ _ _ _ us hl => match us, hl with | [_], _ => rfl) S rfl rfl fun cdv A outer s H E hr hp hx hu ht => ?_
  exact (b_one (s_ret (e_lstR (a_cons (e_mul (e_mod (e_var 0) (e_mulC (v := 100000000000000000000000000000000000000000000000000000000000000000000000000000000000000000000000000000000000000000000000000000000000000000000000000000000000000000000000000000000000000000000000000000000) (e_mulC (v := 1000000000000000000000000000000000000000000000000000000000000000000000000000000000000000000000000000000000000000000000000000000000000000000000000000000) (e_mulC (v := 10000000000000000000000000000000000000000000000000000000000000000000000000000000000000000000000000000) (e_powC (v := 100000000000000000000000000000000000000000000000000)) (e_powC (v := 100000000000000000000000000000000000000000000000000))) (e_powC (v := 100000000000000000000000000000000000000000000000000))) (e_powC (v := 100000000000000000000000000000000000000000000000000)))) (e_toint fr (a_cons (e_ge (e_var 0) (e_powC (v := 1000000000000000000))) a_nil))) (a_cons (e_var 0) (a_cons e_int a_nil))))))
theorem ok__law_take {f : Addr} {fd : FuncData} (hm : mg "_law_take" = some (.ref f)) (F : FunD K "_law_take" "_law_take" (defArgs s__law_take) (defBody s__law_take) (defScope s__law_take) [] [] f fd) (fr : Frees mg) (G__law_mixed : Good P w K mg base 1 "_law_mixed" 2 F__law_mixed) :
    Good P w K mg base 2 "_law_take" 2 F__law_pull := by
  have S : FnScope ["pot", "many", "told"] ["pot", "many"] (defScope s__law_take) := ⟨rfl, rfl, rfl, by decide +kernel, rfl, by decide +kernel, by decide +kernel⟩
  have hN := S.nd
  refine good_def hm F (F.bindsN (ps := ["pot", "many"]) fun _ _ _ _ _ _ us hl => match us, hl with | [_, _], _ => rfl) S rfl rfl fun cdv A outer s H E hr hp hx hu ht => ?_
  exact (b_cons (s_put hu (e_var 0) e_int (e_add (e_ix hu (e_var 0) e_int) e_int)) (b_cons (s_if (t_gt (e_ix hu (e_var 0) e_int) e_int) (b_cons (s_set 2 hN (e_mod (e_ix hu (e_var 0) e_int) (e_var 1))) (b_cons (s_put hu (e_var 0) e_int (e_fdiv (e_ix hu (e_var 0) e_int) (e_var 1))) (b_one (s_ret (e_var 2))))) b_nil) (b_one (s_ret (e_mod (e_call G__law_mixed hr hx (a_cons (e_ix hu (e_var 0) e_int) (a_cons (e_ix hu (e_var 0) e_int) a_nil))) (e_var 1))))))
theorem ok__law_name {f : Addr} {fd : FuncData} (hm : mg "_law_name" = some (.ref f)) (F : FunD K "_law_name" "_law_name" (defArgs s__law_name) (defBody s__law_name) (defScope s__law_name) [] [] f fd) (fr : Frees mg) (G__law_take : Good P w K mg base 2 "_law_take" 2 F__law_pull) :
    Good P w K mg base 3 "_law_name" 1 F__law_nameT := by
  have S : FnScope ["pot", "letters", "k"] ["pot"] (defScope s__law_name) := ⟨rfl, rfl, rfl, by decide +kernel, rfl, by decide +kernel, by decide +kernel⟩
  have hN := S.nd
  refine good_def hm F (F.bindsN (ps := ["pot"]) fun _ _ _ _ _ _ us hl => match us, hl with | [_], _ => rfl) S rfl rfl fun cdv A outer s H E hr hp hx hu ht => ?_
  exact (b_cons (s_set 1 hN e_str) (b_cons (s_if (t_eq hu (e_call G__law_take hr hx (a_cons (e_var 0) (a_cons e_int a_nil))) e_int) (b_one (s_ret (e_ix hu (e_lst (a_cons e_str (a_cons e_str (a_cons e_str (a_cons e_str (a_cons e_str (a_cons e_str (a_cons e_str (a_cons e_str a_nil))))))))) (e_call G__law_take hr hx (a_cons (e_var 0) (a_cons e_int a_nil)))))) b_nil) (b_one (s_ret (e_join e_str (a_cons (e_comp [("k", 2)] rfl hN (i_range1 rfl fr.range (a_cons (e_add e_int (e_call G__law_take hr hx (a_cons (e_var 0) (a_cons e_int a_nil)))) a_nil)) (by kernel_rfl) (fun _ _ _ _ _ => (g_nm 2 hN)) (fun _ _ _ _ _ => ts_nil) (fun _ _ _ _ _ => (e_ix hu (e_var 1) (e_call G__law_take hr passL (a_cons (e_var 0) (a_cons e_int a_nil)))))) a_nil))))))
theorem ok__law_number {f : Addr} {fd : FuncData} (hm : mg "_law_number" = some (.ref f)) (F : FunD K "_law_number" "_law_number" (defArgs s__law_number) (defBody s__law_number) (defScope s__law_number) [] [] f fd) (fr : Frees mg) (G__law_take : Good P w K mg base 2 "_law_take" 2 F__law_pull) :
    Good P w K mg base 3 "_law_number" 2 F__law_numberT := by
  have S : FnScope ["pot", "least", "far"] ["pot", "least"] (defScope s__law_number) := ⟨rfl, rfl, rfl, by decide +kernel, rfl, by decide +kernel, by decide +kernel⟩
  have hN := S.nd
  refine good_def hm F (F.bindsN (ps := ["pot", "least"]) fun _ _ _ _ _ _ us hl => match us, hl with | [_, _], _ => rfl) S rfl rfl fun cdv A outer s H E hr hp hx hu ht => ?_
  exact (b_cons (s_set 2 hN (e_add (e_add (e_mul (e_call G__law_take hr hx (a_cons (e_var 0) (a_cons (e_powC (v := 100000000)) a_nil))) (e_powC (v := 100000000000000000000))) (e_mul (e_call G__law_take hr hx (a_cons (e_var 0) (a_cons (e_powC (v := 10000000000)) a_nil))) (e_powC (v := 10000000000)))) (e_call G__law_take hr hx (a_cons (e_var 0) (a_cons (e_powC (v := 10000000000)) a_nil))))) (b_one (s_ret (e_add (e_var 1) (e_ix hu (e_lst (a_cons (e_call G__law_take hr hx (a_cons (e_var 0) (a_cons e_int a_nil))) (a_cons (e_call G__law_take hr hx (a_cons (e_var 0) (a_cons e_int a_nil))) (a_cons (e_call G__law_take hr hx (a_cons (e_var 0) (a_cons e_int a_nil))) (a_cons (e_sub (e_var 2) (e_var 1)) a_nil))))) (e_call G__law_take hr hx (a_cons (e_var 0) (a_cons e_int a_nil))))))))
theorem ok__law_any_deed {f : Addr} {fd : FuncData} (hm : mg "_law_any_deed" = some (.ref f)) (F : FunD K "_law_any_deed" "_law_any_deed" (defArgs s__law_any_deed) (defBody s__law_any_deed) (defScope s__law_any_deed) [] [] f fd) (fr : Frees mg) (G__law_take : Good P w K mg base 2 "_law_take" 2 F__law_pull) (G__law_name : Good P w K mg base 3 "_law_name" 1 F__law_nameT) (G__law_number : Good P w K mg base 3 "_law_number" 2 F__law_numberT) :
    Good P w K mg base 4 "_law_any_deed" 2 F__law_any_deed := by
  have S : FnScope ["pot", "many", "house", "words", "word", "side", "other"] ["pot", "many"] (defScope s__law_any_deed) := ⟨rfl, rfl, rfl, by decide +kernel, rfl, by decide +kernel, by decide +kernel⟩
  have hN := S.nd
  refine good_def hm F (F.bindsN (ps := ["pot", "many"]) fun _ _ _ _ _ _ us hl => match us, hl with | [_, _], _ => rfl) S rfl rfl fun cdv A outer s H E hr hp hx hu ht => ?_
  exact (b_cons (s_set 2 hN (e_call G__law_take hr hx (a_cons (e_var 0) (a_cons (e_var 1) a_nil)))) (b_cons (s_set 3 hN (e_lst (a_cons e_str (a_cons e_str (a_cons e_str (a_cons e_str (a_cons e_str (a_cons e_str (a_cons e_str (a_cons e_str (a_cons e_str (a_cons e_str (a_cons e_str a_nil))))))))))))) (b_cons (s_set 4 hN (e_ix hu (e_var 3) (e_call G__law_take hr hx (a_cons (e_var 0) (a_cons e_int a_nil))))) (b_cons (s_if (t_eq hu (e_var 4) e_str) (b_one (s_ret (e_tup (a_cons (e_var 4) (a_cons (e_var 2) (a_cons (e_call G__law_name hr hx (a_cons (e_var 0) a_nil)) (a_cons (e_call G__law_name hr hx (a_cons (e_var 0) a_nil)) a_nil))))))) b_nil) (b_cons (s_if (t_in hu (e_var 4) (e_tup (a_cons e_str (a_cons e_str a_nil)))) (b_one (s_ret (e_tup (a_cons (e_var 4) (a_cons (e_var 2) (a_cons (e_call G__law_name hr hx (a_cons (e_var 0) a_nil)) a_nil)))))) b_nil) (b_cons (s_if (t_in hu (e_var 4) (e_tup (a_cons e_str (a_cons e_str (a_cons e_str a_nil))))) (b_one (s_ret (e_tup (a_cons (e_var 4) (a_cons (e_call G__law_number hr hx (a_cons (e_var 0) (a_cons e_int a_nil))) a_nil))))) b_nil) (b_cons (s_if (t_in hu (e_var 4) (e_tup (a_cons e_str (a_cons e_str a_nil)))) (b_one (s_ret (e_tup (a_cons (e_var 4) (a_cons (e_var 2) a_nil))))) b_nil) (b_cons (s_set 5 hN (e_tuple fr (a_cons (e_comp [("other", 6)] rfl hN (i_range1 rfl fr.range (a_cons (e_var 1) a_nil)) (by kernel_rfl) (fun _ _ _ _ _ => (g_nm 6 hN)) (fun _ _ _ _ _ => (ts_one (t_eq hu (e_call G__law_take hr passL (a_cons (e_var 0) (a_cons e_int a_nil))) e_int))) (fun _ _ _ _ _ => (e_var 6))) a_nil))) (b_cons (s_if (t_w (w_and (t_eq hu (e_var 4) e_str) (w_and1 (t_chain op_ltD dLt_ok op_ltD dLt_ok e_int (e_len fr (a_cons (e_var 5) a_nil)) (e_var 1))))) (b_one (s_ret (e_tup (a_cons (e_var 4) (a_cons (e_var 5) a_nil))))) b_nil) (b_one (s_ret (e_ix hu (e_lst (a_cons (e_tup (a_cons e_str a_nil)) (a_cons (e_tup (a_cons e_str a_nil)) a_nil))) (e_call G__law_take hr hx (a_cons (e_var 0) (a_cons e_int a_nil)))))))))))))))
theorem ok__law_any_entry {f : Addr} {fd : FuncData} (hm : mg "_law_any_entry" = some (.ref f)) (F : FunD K "_law_any_entry" "_law_any_entry" (defArgs s__law_any_entry) (defBody s__law_any_entry) (defScope s__law_any_entry) [] [] f fd) (fr : Frees mg) (G__law_take : Good P w K mg base 2 "_law_take" 2 F__law_pull) (G__law_name : Good P w K mg base 3 "_law_name" 1 F__law_nameT) (G__law_number : Good P w K mg base 3 "_law_number" 2 F__law_numberT) :
    Good P w K mg base 4 "_law_any_entry" 2 F__law_any_entry := by
  have S : FnScope ["pot", "many", "house", "name", "number", "until", "some"] ["pot", "many"] (defScope s__law_any_entry) := ⟨rfl, rfl, rfl, by decide +kernel, rfl, by decide +kernel, by decide +kernel⟩
  have hN := S.nd
  refine good_def hm F (F.bindsN (ps := ["pot", "many"]) fun _ _ _ _ _ _ us hl => match us, hl with | [_, _], _ => rfl) S rfl rfl fun cdv A outer s H E hr hp hx hu ht => ?_
  exact (b_cons (s_set 2 hN (e_call G__law_take hr hx (a_cons (e_var 0) (a_cons (e_var 1) a_nil)))) (b_cons (s_set 3 hN (e_call G__law_name hr hx (a_cons (e_var 0) a_nil))) (b_cons (s_set 4 hN (e_max2 rfl fr (a_cons e_int (a_cons (e_call G__law_number hr hx (a_cons (e_var 0) (a_cons e_int a_nil))) a_nil)))) (b_cons (s_set 5 hN (e_max2 rfl fr (a_cons e_int (a_cons (e_call G__law_number hr hx (a_cons (e_var 0) (a_cons e_int a_nil))) a_nil)))) (b_cons (s_set 6 hN (e_lstR (a_cons (e_tup (a_cons e_str (a_cons (e_var 3) (a_cons (e_var 4) (a_cons (e_call G__law_name hr hx (a_cons (e_var 0) a_nil)) (a_cons (e_var 5) a_nil)))))) (a_cons (e_tup (a_cons e_str (a_cons (e_var 3) (a_cons (e_var 4) (a_cons (e_var 2) (a_cons (e_var 5) a_nil)))))) a_nil)))) (b_cons (s_set 6 hN (e_addR (e_var 6) (e_lst (a_cons (e_tup (a_cons e_str (a_cons (e_var 3) (a_cons (e_var 4) (a_cons (e_var 2) a_nil))))) (a_cons (e_tup (a_cons e_str (a_cons (e_var 3) (a_cons (e_var 4) a_nil)))) (a_cons (e_tup (a_cons e_str (a_cons (e_var 3) (a_cons (e_var 2) (a_cons (e_var 4) (a_cons (e_var 5) a_nil)))))) a_nil)))))) (b_cons (s_expr (e_append (e_var 6) (a_cons (e_tup (a_cons e_str (a_cons (e_var 3) (a_cons (e_var 2) (a_cons (e_var 4) a_nil))))) a_nil))) (b_one (s_ret (e_ix hu (e_var 6) (e_call G__law_take hr hx (a_cons (e_var 0) (a_cons e_int a_nil)))))))))))))
theorem ok__law_shown {f : Addr} {fd : FuncData} (hm : mg "_law_shown" = some (.ref f)) (F : FunD K "_law_shown" "_law_shown" (defArgs s__law_shown) (defBody s__law_shown) (defScope s__law_shown) [] [] f fd) (fr : Frees mg) :
    Good P w K mg base 1 "_law_shown" 1 F__law_shown := by
  have S : FnScope ["deed", "words", "part", "house"] ["deed"] (defScope s__law_shown) := ⟨rfl, rfl, rfl, by decide +kernel, rfl, by decide +kernel, by decide +kernel⟩
  have hN := S.nd
  refine good_def hm F (F.bindsN (ps := ["deed"]) fun _ _ _ _ _ _ us hl => match us, hl with | [_], _ => rfl) S rfl rfl fun cdv A outer s H E hr hp hx hu ht => ?_
  exact (b_cons (s_set 1 hN (e_lstR a_nil)) (b_cons (s_for [2] hp rfl (i_seq (e_var 0)) (g_nm 2 hN) (b_one (s_if (t_tru (e_isi fr (a_cons (e_var 2) (a_cons (e_ttuple fr) a_nil)))) (b_one (s_expr (e_append (e_var 1) (a_cons (e_join e_str (a_cons (e_comp [("house", 3)] rfl hN (i_seq (e_var 2)) (by kernel_rfl) (fun _ _ _ _ _ => (g_nm 3 hN)) (fun _ _ _ _ _ => ts_nil) (fun _ _ _ _ _ => (e_strD fr (a_cons (e_var 3) a_nil)))) a_nil)) a_nil)))) (b_one (s_expr (e_append (e_var 1) (a_cons (e_strD fr (a_cons (e_var 2) a_nil)) a_nil))))))) (b_one (s_ret (e_join e_str (a_cons (e_var 1) a_nil))))))
theorem ok__law_part {f : Addr} {fd : FuncData} (hm : mg "_law_part" = some (.ref f)) (F : FunD K "_law_part" "_law_part" (defArgs s__law_part) (defBody s__law_part) (defScope s__law_part) [] [] f fd) (fr : Frees mg) :
    Good P w K mg base 1 "_law_part" 3 F__law_part := by
  have S : FnScope ["form", "word", "many", "number", "letters", "sign"] ["form", "word", "many"] (defScope s__law_part) := ⟨rfl, rfl, rfl, by decide +kernel, rfl, by decide +kernel, by decide +kernel⟩
  have hN := S.nd
  refine good_def hm F (F.bindsN (ps := ["form", "word", "many"]) fun _ _ _ _ _ _ us hl => match us, hl with | [_, _, _], _ => rfl) S rfl rfl fun cdv A outer s H E hr hp hx hu ht => ?_
  exact (b_cons (s_if (t_eq hu (e_var 0) e_str) (b_cons (s_set 4 hN e_str) (b_one (s_ret (e_ix hu (e_lst (a_cons e_non (a_cons (e_var 1) a_nil))) (e_toint fr (a_cons (e_and (e_chain op_ltD dLt_ok op_ltD dLt_ok e_int (e_len fr (a_cons (e_var 1) a_nil)) e_int) (e_one (e_eq hu (e_comp [("sign", 5)] rfl hN (i_str (e_var 1)) (by kernel_rfl) (fun _ _ _ _ _ => (g_nm 5 hN)) (fun _ _ _ _ _ => (ts_one (t_nin hu (e_var 5) (e_var 4)))) (fun _ _ _ _ _ => (e_var 5))) (e_lst a_nil)))) a_nil)))))) b_nil) (b_cons (s_if (t_w (w_or (t_eq hu (e_var 1) e_str) (w_or (t_ne hu (e_comp [("sign", 5)] rfl hN (i_str (e_var 1)) (by kernel_rfl) (fun _ _ _ _ _ => (g_nm 5 hN)) (fun _ _ _ _ _ => (ts_one (t_nin hu (e_var 5) e_str))) (fun _ _ _ _ _ => (e_var 5))) (e_lst a_nil)) (w_or1 (t_w (w_and (t_eq hu (e_ix hu (e_var 1) e_int) e_str) (w_and1 (t_ne hu (e_var 1) e_str)))))))) (b_one (s_ret e_non)) b_nil) (b_cons (s_set 3 hN (e_tointT fr (a_cons (e_var 1) a_nil))) (b_cons (s_if (t_w (w_or (t_w (w_and (t_eq hu (e_var 0) e_str) (w_and1 (t_ge (e_var 3) (e_var 2))))) (w_or1 (t_w (w_and (t_eq hu (e_var 0) e_str) (w_and1 (t_lt (e_var 3) e_int))))))) (b_one (s_ret e_non)) b_nil) (b_one (s_ret (e_var 3)))))))
theorem ok__law_entry {f : Addr} {fd : FuncData} (hm : mg "_law_entry" = some (.ref f)) (F : FunD K "_law_entry" "_law_entry" (defArgs s__law_entry) (defBody s__law_entry) (defScope s__law_entry) [] [] f fd) (fr : Frees mg) (G__law_part : Good P w K mg base 1 "_law_part" 3 F__law_part) :
    Good P w K mg base 2 "_law_entry" 2 F__law_entry_o := by
  have S : FnScope ["line", "many", "forms", "words", "found", "form", "word"] ["line", "many"] (defScope s__law_entry) := ⟨rfl, rfl, rfl, by decide +kernel, rfl, by decide +kernel, by decide +kernel⟩
  have hN := S.nd
  refine good_def hm F (F.bindsN (ps := ["line", "many"]) fun _ _ _ _ _ _ us hl => match us, hl with | [_, _], _ => rfl) S rfl rfl fun cdv A outer s H E hr hp hx hu ht => ?_
  exact (b_cons (s_set 2 hN (e_disp (pp_cons e_str (e_lst (a_cons e_str (a_cons e_str (a_cons e_str (a_cons e_str a_nil))))) (pp_cons e_str (e_lst (a_cons e_str (a_cons e_str (a_cons e_str (a_cons e_str a_nil))))) pp_nil)))) (b_cons (s_put hu (e_var 2) e_str (e_lst (a_cons e_str (a_cons e_str (a_cons e_str a_nil))))) (b_cons (s_put hu (e_var 2) e_str (e_lst (a_cons e_str (a_cons e_str a_nil)))) (b_cons (s_put hu (e_var 2) e_str (e_lst (a_cons e_str (a_cons e_str (a_cons e_str (a_cons e_str a_nil)))))) (b_cons (s_put hu (e_var 2) e_str (e_lst (a_cons e_str (a_cons e_str (a_cons e_str a_nil))))) (b_cons (s_set 3 hN (e_split (e_var 0) (a_cons e_str a_nil))) (b_cons (s_if (t_w (w_or (t_nin hu (e_ix hu (e_var 3) e_int) (e_var 2)) (w_or1 (t_ne hu (e_len fr (a_cons (e_var 3) a_nil)) (e_add e_int (e_len fr (a_cons (e_ix hu (e_var 2) (e_ix hu (e_var 3) e_int)) a_nil))))))) (b_one (s_ret e_non)) b_nil) (b_cons (s_setC 4 [("form", 5), ("word", 6)] rfl hN (i_zip rfl fr.zip (a_cons (e_ix hu (e_var 2) (e_ix hu (e_var 3) e_int)) (a_cons (e_sl (e_var 3) (o_part e_int) o_no) a_nil))) (by kernel_rfl) (fun _ _ _ _ _ => (g_tp rfl (gs_cons (g_nm 5 hN) (gs_cons (g_nm 6 hN) gs_nil)))) (fun _ _ _ _ _ => ts_nil) (fun _ _ _ _ _ => (e_call G__law_part hr passL (a_cons (e_var 5) (a_cons (e_var 6) (a_cons (e_var 1) a_nil)))))) (b_cons (s_if (t_in hu e_non (e_var 4)) (b_one (s_ret e_non)) b_nil) (b_one (s_ret (e_tuple fr (a_cons (e_add (e_sl (e_var 3) o_no (o_part e_int)) (e_var 4)) a_nil)))))))))))))
theorem ok__law_read {f : Addr} {fd : FuncData} (hm : mg "_law_read" = some (.ref f)) (F : FunD K "_law_read" "_law_read" (defArgs s__law_read) (defBody s__law_read) (defScope s__law_read) [] [] f fd) (fr : Frees mg) (G__law_entry : Good P w K mg base 2 "_law_entry" 2 F__law_entry_o) :
    Good P w K mg base 3 "_law_read" 2 F__law_read := by
  have S : FnScope ["text", "many", "found", "line"] ["text", "many"] (defScope s__law_read) := ⟨rfl, rfl, rfl, by decide +kernel, rfl, by decide +kernel, by decide +kernel⟩
  have hN := S.nd
  refine good_def hm F (F.bindsN (ps := ["text", "many"]) fun _ _ _ _ _ _ us hl => match us, hl with | [_, _], _ => rfl) S rfl rfl fun cdv A outer s H E hr hp hx hu ht => ?_
  exact (b_cons (s_if (t_eq hu (e_var 0) e_str) (b_one (s_ret (e_tup a_nil))) b_nil) (b_cons (s_setC 2 [("line", 3)] rfl hN (i_seq (e_split (e_var 0) (a_cons e_str a_nil))) (by kernel_rfl) (fun _ _ _ _ _ => (g_nm 3 hN)) (fun _ _ _ _ _ => ts_nil) (fun _ _ _ _ _ => (e_call G__law_entry hr passL (a_cons (e_var 3) (a_cons (e_var 1) a_nil))))) (b_cons (s_if (t_in hu e_non (e_var 2)) (b_one (s_ret e_non)) b_nil) (b_one (s_ret (e_tuple fr (a_cons (e_var 2) a_nil)))))))
theorem ok__law_line_bent {f : Addr} {fd : FuncData} (hm : mg "_law_line_bent" = some (.ref f)) (F : FunD K "_law_line_bent" "_law_line_bent" (defArgs s__law_line_bent) (defBody s__law_line_bent) (defScope s__law_line_bent) [] [] f fd) (fr : Frees mg) (G__law_take : Good P w K mg base 2 "_law_take" 2 F__law_pull) :
    Good P w K mg base 3 "_law_line_bent" 2 F__law_line_bent := by
  have S : FnScope ["pot", "lines", "spot", "words", "at", "other", "way"] ["pot", "lines"] (defScope s__law_line_bent) := ⟨rfl, rfl, rfl, by decide +kernel, rfl, by decide +kernel, by decide +kernel⟩
  have hN := S.nd
  refine good_def hm F (F.bindsN (ps := ["pot", "lines"]) fun _ _ _ _ _ _ us hl => match us, hl with | [_, _], _ => rfl) S rfl rfl fun cdv A outer s H E hr hp hx hu ht => ?_
  exact (b_cons (s_set 2 hN (e_call G__law_take hr hx (a_cons (e_var 0) (a_cons (e_len fr (a_cons (e_var 1) a_nil)) a_nil)))) (b_cons (s_set 3 hN (e_split (e_ix hu (e_var 1) (e_var 2)) (a_cons e_str a_nil))) (b_cons (s_set 4 hN (e_call G__law_take hr hx (a_cons (e_var 0) (a_cons (e_len fr (a_cons (e_var 3) a_nil)) a_nil)))) (b_cons (s_set 5 hN (e_lst (a_cons e_str (a_cons e_str (a_cons e_str (a_cons e_str (a_cons e_str (a_cons e_str (a_cons e_str (a_cons e_str (a_cons e_str (a_cons e_str (a_cons e_str (a_cons e_str (a_cons e_str (a_cons e_str (a_cons e_str (a_cons e_str a_nil)))))))))))))))))) (b_cons (s_set 6 hN (e_call G__law_take hr hx (a_cons (e_var 0) (a_cons e_int a_nil)))) (b_cons (s_if (t_eq hu (e_var 6) e_int) (b_one (s_ret (e_add (e_sl (e_var 1) o_no (o_part (e_var 2))) (e_sl (e_var 1) (o_part (e_add (e_var 2) e_int)) o_no)))) b_nil) (b_cons (s_if (t_eq hu (e_var 6) e_int) (b_one (s_ret (e_add (e_sl (e_var 1) o_no (o_part (e_add (e_var 2) e_int))) (e_sl (e_var 1) (o_part (e_var 2)) o_no)))) b_nil) (b_cons (s_if (t_eq hu (e_var 6) e_int) (b_one (s_ret (e_rev (e_var 1)))) b_nil) (b_cons (s_if (t_eq hu (e_var 6) e_int) (b_one (s_set 3 hN (e_add (e_sl (e_var 3) o_no (o_part (e_var 4))) (e_sl (e_var 3) (o_part (e_add (e_var 4) e_int)) o_no)))) (b_one (s_if (t_eq hu (e_var 6) e_int) (b_one (s_set 3 hN (e_add (e_sl (e_var 3) o_no (o_part (e_add (e_var 4) e_int))) (e_sl (e_var 3) (o_part (e_var 4)) o_no)))) (b_one (s_if (t_eq hu (e_var 6) e_int) (b_one (s_set 3 hN (e_add (e_add (e_sl (e_var 3) o_no (o_part (e_var 4))) (e_lst (a_cons (e_add e_str (e_ix hu (e_var 3) (e_var 4))) a_nil))) (e_sl (e_var 3) (o_part (e_add (e_var 4) e_int)) o_no)))) (b_one (s_set 3 hN (e_add (e_add (e_sl (e_var 3) o_no (o_part (e_var 4))) (e_lst (a_cons (e_ix hu (e_var 5) (e_call G__law_take hr hx (a_cons (e_var 0) (a_cons e_int a_nil)))) a_nil))) (e_sl (e_var 3) (o_part (e_add (e_var 4) e_int)) o_no))))))))) (b_one (s_ret (e_add (e_add (e_sl (e_var 1) o_no (o_part (e_var 2))) (e_lst (a_cons (e_join e_str (a_cons (e_var 3) a_nil)) a_nil))) (e_sl (e_var 1) (o_part (e_add (e_var 2) e_int)) o_no)))))))))))))
theorem ok__law_bent {f : Addr} {fd : FuncData} (hm : mg "_law_bent" = some (.ref f)) (F : FunD K "_law_bent" "_law_bent" (defArgs s__law_bent) (defBody s__law_bent) (defScope s__law_bent) [] [] f fd) (fr : Frees mg) (G__law_take : Good P w K mg base 2 "_law_take" 2 F__law_pull) (G__law_line_bent : Good P w K mg base 3 "_law_line_bent" 2 F__law_line_bent) :
    Good P w K mg base 4 "_law_bent" 2 F__law_bent := by
  have S : FnScope ["pot", "text", "at", "sign", "way", "signs"] ["pot", "text"] (defScope s__law_bent) := ⟨rfl, rfl, rfl, by decide +kernel, rfl, by decide +kernel, by decide +kernel⟩
  have hN := S.nd
  refine good_def hm F (F.bindsN (ps := ["pot", "text"]) fun _ _ _ _ _ _ us hl => match us, hl with | [_, _], _ => rfl) S rfl rfl fun cdv A outer s H E hr hp hx hu ht => ?_
  exact (b_cons (s_set 2 hN (e_call G__law_take hr hx (a_cons (e_var 0) (a_cons (e_add (e_len fr (a_cons (e_var 1) a_nil)) e_int) a_nil)))) (b_cons (s_set 3 hN (e_ix hu (e_lst (a_cons e_str (a_cons e_str (a_cons e_str (a_cons e_str (a_cons e_str (a_cons e_str (a_cons e_str (a_cons e_str (a_cons e_str (a_cons e_str (a_cons e_str (a_cons e_str (a_cons e_str (a_cons e_str a_nil))))))))))))))) (e_call G__law_take hr hx (a_cons (e_var 0) (a_cons e_int a_nil))))) (b_cons (s_if (t_eq hu (e_call G__law_take hr hx (a_cons (e_var 0) (a_cons e_int a_nil))) e_int) (b_cons (s_set 5 hN e_str) (b_cons (s_set 5 hN (e_add (e_var 5) e_str)) (b_one (s_set 3 hN (e_ix hu (e_var 5) (e_call G__law_take hr hx (a_cons (e_var 0) (a_cons (e_len fr (a_cons (e_var 5) a_nil)) a_nil)))))))) b_nil) (b_cons (s_set 4 hN (e_call G__law_take hr hx (a_cons (e_var 0) (a_cons e_int a_nil)))) (b_cons (s_if (t_eq hu (e_var 4) e_int) (b_one (s_ret (e_add (e_sl (e_var 1) o_no (o_part (e_var 2))) (e_sl (e_var 1) (o_part (e_add (e_var 2) e_int)) o_no)))) b_nil) (b_cons (s_if (t_lt (e_var 4) e_int) (b_one (s_ret (e_add (e_add (e_sl (e_var 1) o_no (o_part (e_var 2))) (e_var 3)) (e_sl (e_var 1) (o_part (e_sub (e_add (e_var 2) (e_var 4)) e_int)) o_no)))) b_nil) (b_cons (s_if (t_eq hu (e_var 4) e_int) (b_one (s_ret (e_add (e_add (e_sl (e_var 1) o_no (o_part (e_var 2))) (e_revS (e_sl (e_var 1) (o_part (e_var 2)) (o_part (e_add (e_var 2) e_int))))) (e_sl (e_var 1) (o_part (e_add (e_var 2) e_int)) o_no)))) b_nil) (b_cons (s_if (t_eq hu (e_var 4) e_int) (b_one (s_ret (e_ix hu (e_lst (a_consT (e0_add (e_var 1)) (at_cons (at_of (e_add (e_var 1) e_str)) (at_cons (at_of (e_add (e_var 1) e_str)) (at_cons (e_repl1 (e_var 1)) (at_cons (at_of (e_add (e_var 1) e_str)) at_nil)))))) (e_call G__law_take hr hx (a_cons (e_var 0) (a_cons e_int a_nil)))))) b_nil) (b_one (s_ret (e_join e_str (a_cons (e_call G__law_line_bent hr hx (a_cons (e_var 0) (a_cons (e_split (e_var 1) (a_cons e_str a_nil)) a_nil))) a_nil))))))))))))
theorem ok__law_right {f : Addr} {fd : FuncData} (hm : mg "_law_right" = some (.ref f)) (F : FunD K "_law_right" "_law_right" (defArgs s__law_right) (defBody s__law_right) (defScope s__law_right) [] [] f fd) (fr : Frees mg) (c_E : ExnOk K mg Y_all) (G__law_read : Good P w K mg base 3 "_law_read" 2 F__law_read) (G_read_log : Good P w K mg base 6 "read_log" 2 F_read_logX) :
    Good P w K mg base 7 "_law_right" 2 F__law_right := by
  have S : FnScope ["text", "many", "due", "found", "caught", "e", "others"] ["text", "many"] (defScope s__law_right) := ⟨rfl, rfl, rfl, by decide +kernel, rfl, by decide +kernel, by decide +kernel⟩
  have hN := S.nd
  refine good_def hm F (F.bindsN (ps := ["text", "many"]) fun _ _ _ _ _ _ us hl => match us, hl with | [_, _], _ => rfl) S rfl rfl fun cdv A outer s H E hr hp hx hu ht => ?_
  exact (b_cons (s_set 2 hN (e_call G__law_read hr hx (a_cons (e_var 0) (a_cons (e_var 1) a_nil)))) (b_cons (s_set 3 hN e_non) (b_cons (s_set 4 hN e_non) (b_cons (s_tryAs 5 hN c_E ht rfl rfl (y_set 3 hN G_read_log hr (fun _ _ => (a_cons (e_var 1) (a_cons (e_var 0) a_nil)))) (fun _ _ => (b_one (s_set 4 hN (e_var 5))))) (b_cons (s_if (t_isnt (e_var 2) e_non) (b_one (s_ret (e_and (e_is (e_var 4) e_non) (e_and (e_eq hu (e_var 3) (e_var 2)) (e_one (e_isi fr (a_cons (e_var 3) (a_cons (e_ttuple fr) a_nil)))))))) b_nil) (b_cons (s_set 6 hN (e_isx fr c_E (a_cons (e_var 4) (a_cons (e_tup (a_cons (e_cls c_E) (a_cons (e_cls c_E) (a_cons (e_cls c_E) (a_cons (e_cls c_E) (a_cons (e_cls c_E) (a_cons (e_cls c_E) (a_cons (e_cls c_E) (a_cons (e_cls c_E) a_nil))))))))) a_nil)))) (b_one (s_ret (e_and (e_isx fr c_E (a_cons (e_var 4) (a_cons (e_cls c_E) a_nil))) (e_and (e_isx fr c_E (a_cons (e_var 4) (a_cons (e_tval fr) a_nil))) (e_one (e_not (e_var 6)))))))))))))
theorem fn_law {f : Addr} {fd : FuncData} (F : FunD K "law" "law" (defArgs s_law) (defBody s_law) (defScope s_law) [] [] f fd) (fr : Frees mg) (G__law_pot : Good P w K mg base 1 "_law_pot" 1 F__law_pot) (G__law_take : Good P w K mg base 2 "_law_take" 2 F__law_pull) (G__law_any_entry : Good P w K mg base 4 "_law_any_entry" 2 F__law_any_entry) (G__law_shown : Good P w K mg base 1 "_law_shown" 1 F__law_shown) (G__law_bent : Good P w K mg base 4 "_law_bent" 2 F__law_bent) (G__law_right : Good P w K mg base 7 "_law_right" 2 F__law_right) (G__law_any_deed : Good P w K mg base 4 "_law_any_deed" 2 F__law_any_deed) :
    FnOk P w K mg base (CXp P w) 8 f fd ["script"] (spF K mg 1 F_law) := by
  have S : FnScope ["script", "cell", "pot", "many", "turn", "some", "entries", "text", "k", "entry"] ["script"] (defScope s_law) := ⟨rfl, rfl, rfl, by decide +kernel, rfl, by decide +kernel, by decide +kernel⟩
  have hN := S.nd
  refine fn_def F S rfl rfl fun cdv A outer s H E hr hp hx hu ht => ?_
  exact (b_cons (s_for [1, 2, 3, 4, 5, 6] hp rfl (i_seq (e_add (e_sl (e_var 0) o_no (o_part e_int)) (e_lst (a_cons (e_len fr (a_cons (e_var 0) a_nil)) a_nil)))) (g_nm 1 hN) (b_cons (s_set 2 hN (e_call G__law_pot hr hx (a_cons (e_var 1) a_nil))) (b_cons (s_set 3 hN (e_add e_int (e_call G__law_take hr hx (a_cons (e_var 2) (a_cons e_int a_nil))))) (b_cons (s_for [4, 6] hp rfl (i_range1 rfl fr.range (a_cons e_int a_nil)) (g_nm 4 hN) (b_cons (s_setC 6 [("k", 8)] rfl hN (i_range1 rfl fr.range (a_cons (e_call G__law_take hr hx (a_cons (e_var 2) (a_cons e_int a_nil))) a_nil)) (by kernel_rfl) (fun _ _ _ _ _ => (g_nm 8 hN)) (fun _ _ _ _ _ => ts_nil) (fun _ _ _ _ _ => (e_call G__law_any_entry hr passL (a_cons (e_var 2) (a_cons (e_var 3) a_nil))))) (b_cons (s_set 7 hN (e_join e_str (a_cons (e_comp [("entry", 9)] rfl hN (i_seq (e_var 6)) (by kernel_rfl) (fun _ _ _ _ _ => (g_nm 9 hN)) (fun _ _ _ _ _ => ts_nil) (fun _ _ _ _ _ => (e_call G__law_shown hr passL (a_cons (e_var 9) a_nil)))) a_nil))) (b_cons (s_if (t_eq hu (e_var 6) (e_lst a_nil)) (b_one (s_set 7 hN e_str)) b_nil) (b_cons (s_set 7 hN (e_call G__law_bent hr hx (a_cons (e_var 2) (a_cons (e_var 7) a_nil)))) (b_one (s_if (t_w (w_or (t_not (t_tru (e_call G__law_right hr hx (a_cons (e_var 7) (a_cons (e_var 3) a_nil))))) (w_or1 (t_not (t_tru (e_call G__law_right hr hx (a_cons (e_call G__law_bent hr hx (a_cons (e_var 2) (a_cons (e_var 7) a_nil))) (a_cons (e_var 3) a_nil)))))))) (b_one (s_ret e_bl)) b_nil))))))) (b_cons (s_set 5 hN (e_lstR (a_cons e_str (a_cons e_str (a_cons e_str (a_cons e_str (a_cons e_str (a_cons e_str (a_cons e_str (a_cons e_str (a_cons e_str (a_cons e_str (a_cons e_str a_nil))))))))))))) (b_cons (s_set 5 hN (e_addR (e_var 5) (e_lst (a_cons e_str (a_cons e_str (a_cons e_str (a_cons e_str (a_cons e_str a_nil)))))))) (b_cons (s_set 5 hN (e_addR (e_var 5) (e_lst (a_cons e_str (a_cons e_str (a_cons e_str (a_cons e_str a_nil))))))) (b_cons (s_expr (e_append (e_var 5) (a_cons (e_call G__law_shown hr hx (a_cons (e_call G__law_any_deed hr hx (a_cons (e_var 2) (a_cons (e_var 3) a_nil))) a_nil)) a_nil))) (b_one (s_if (t_ne hu (e_comp [("text", 7)] rfl hN (i_seq (e_var 5)) (by kernel_rfl) (fun _ _ _ _ _ => (g_nm 7 hN)) (fun _ _ _ _ _ => (ts_one (t_not (t_tru (e_call G__law_right hr passL (a_cons (e_var 7) (a_cons (e_var 3) a_nil))))))) (fun _ _ _ _ _ => (e_var 7))) (e_lst a_nil)) (b_one (s_ret e_bl)) b_nil)))))))))) (b_one (s_ret e_bl)))
end
theorem facts {P : Program} {w : World} {K : PySem.W.Frag} {h : Heap} {mg : Str → Option Value} {f : Addr} (X : K.In h) (G : h.Ns mainGlobals mg) (hfa : mg ("law" : Str) = some (.ref f)) (cx : He.SaysX fa fn ts [] ex w h K) :
    ∃ fd : FuncData, (∀ (s : Shared) (v : Value), BindsTo s fd ⟨[v], []⟩ [("script", v)]) ∧ ∀ base : Heap, K.In base → base.Ns mainGlobals mg → FnOk P w K mg base (CXp P w) 8 f fd ["script"] (spF K mg 1 F_law) := by
  have c := cx.t.d
  have fr : Frees mg := ⟨He.free_ok X G (c.fact 28 (f := .free "len") rfl), He.free_ok X G (c.fact 29 (f := .free "int") rfl), He.free_ok X G (c.fact 30 (f := .free "bool") rfl), He.free_ok X G (c.fact 31 (f := .free "str") rfl), He.free_ok X G (c.fact 32 (f := .free "list") rfl), He.free_ok X G (c.fact 33 (f := .free "tuple") rfl), He.free_ok X G (c.fact 34 (f := .free "dict") rfl), He.free_ok X G (c.fact 35 (f := .free "set") rfl), He.free_ok X G (c.fact 36 (f := .free "range") rfl), He.free_ok X G (c.fact 37 (f := .free "enumerate") rfl), He.free_ok X G (c.fact 38 (f := .free "zip") rfl), He.free_ok X G (c.fact 39 (f := .free "max") rfl), He.free_ok X G (c.fact 40 (f := .free "min") rfl), He.free_ok X G (c.fact 41 (f := .free "sum") rfl), He.free_ok X G (c.fact 42 (f := .free "all") rfl), He.free_ok X G (c.fact 43 (f := .free "any") rfl), He.free_ok X G (c.fact 44 (f := .free "sorted") rfl), He.free_ok X G (c.fact 45 (f := .free "isinstance") rfl), He.free_ok X G (c.fact 46 (f := .free "repr") rfl), He.free_ok X G (c.fact 47 (f := .free "ValueError") rfl)⟩
  have c_LETTERS := He.str_ok X G (c.fact 24 (f := .str "LETTERS" "abcdefghijklmnopqrstuvwxyz") rfl)
  have c_LONGEST := He.int_ok X G (c.fact 25 (f := .int "LONGEST" 8) rfl)
  have c_FIGURES := He.str_ok X G (c.fact 26 (f := .str "FIGURES" "0123456789") rfl)
  have c_ENTRIES := tabS_ok (w := w) (tab := T_etexts) (He.glo_ok X G (c.fact 27 (f := .glo "ENTRIES") rfl)) (cx.t.tab 0 (t := (fun K => He.ga K "ENTRIES", T_etexts.map (·.1))) rfl) (ex_0 cx.more)
  have c_E := exnB_ok (ys := Y_all) X G (ex_E cx.more)
  obtain ⟨fd_is_whole, F_is_whole_⟩ := c.def_ 0 (d := d_is_whole) rfl
  have hm_is_whole := He.glo_ok X G (c.fact 0 (f := .glo "is_whole") rfl)
  obtain ⟨fd_is_name, F_is_name_⟩ := c.def_ 1 (d := d_is_name) rfl
  have hm_is_name := He.glo_ok X G (c.fact 1 (f := .glo "is_name") rfl)
  obtain ⟨fd_is_house, F_is_house_⟩ := c.def_ 2 (d := d_is_house) rfl
  have hm_is_house := He.glo_ok X G (c.fact 2 (f := .glo "is_house") rfl)
  obtain ⟨fd_is_side, F_is_side_⟩ := c.def_ 3 (d := d_is_side) rfl
  have hm_is_side := He.glo_ok X G (c.fact 3 (f := .glo "is_side") rfl)
  obtain ⟨fd_need, F_need_⟩ := c.def_ 4 (d := d_need) rfl
  have hm_need := He.glo_ok X G (c.fact 4 (f := .glo "need") rfl)
  obtain ⟨fd_number_of, F_number_of_⟩ := c.def_ 5 (d := d_number_of) rfl
  have hm_number_of := He.glo_ok X G (c.fact 5 (f := .glo "number_of") rfl)
  obtain ⟨fd_part_of, F_part_of_⟩ := c.def_ 6 (d := d_part_of) rfl
  have hm_part_of := He.glo_ok X G (c.fact 6 (f := .glo "part_of") rfl)
  obtain ⟨fd_row_of, F_row_of_⟩ := c.def_ 7 (d := d_row_of) rfl
  have hm_row_of := He.glo_ok X G (c.fact 7 (f := .glo "row_of") rfl)
  obtain ⟨fd_read_log, F_read_log_⟩ := c.def_ 8 (d := d_read_log) rfl
  have hm_read_log := He.glo_ok X G (c.fact 8 (f := .glo "read_log") rfl)
  obtain ⟨fd__law_mixed, F__law_mixed_⟩ := c.def_ 9 (d := d__law_mixed) rfl
  have hm__law_mixed := He.glo_ok X G (c.fact 9 (f := .glo "_law_mixed") rfl)
  obtain ⟨fd__law_pot, F__law_pot_⟩ := c.def_ 10 (d := d__law_pot) rfl
  have hm__law_pot := He.glo_ok X G (c.fact 10 (f := .glo "_law_pot") rfl)
  obtain ⟨fd__law_take, F__law_take_⟩ := c.def_ 11 (d := d__law_take) rfl
  have hm__law_take := He.glo_ok X G (c.fact 11 (f := .glo "_law_take") rfl)
  obtain ⟨fd__law_name, F__law_name_⟩ := c.def_ 12 (d := d__law_name) rfl
  have hm__law_name := He.glo_ok X G (c.fact 12 (f := .glo "_law_name") rfl)
  obtain ⟨fd__law_number, F__law_number_⟩ := c.def_ 13 (d := d__law_number) rfl
  have hm__law_number := He.glo_ok X G (c.fact 13 (f := .glo "_law_number") rfl)
  obtain ⟨fd__law_any_deed, F__law_any_deed_⟩ := c.def_ 14 (d := d__law_any_deed) rfl
  have hm__law_any_deed := He.glo_ok X G (c.fact 14 (f := .glo "_law_any_deed") rfl)
  obtain ⟨fd__law_any_entry, F__law_any_entry_⟩ := c.def_ 15 (d := d__law_any_entry) rfl
  have hm__law_any_entry := He.glo_ok X G (c.fact 15 (f := .glo "_law_any_entry") rfl)
  obtain ⟨fd__law_shown, F__law_shown_⟩ := c.def_ 16 (d := d__law_shown) rfl
  have hm__law_shown := He.glo_ok X G (c.fact 16 (f := .glo "_law_shown") rfl)
  obtain ⟨fd__law_part, F__law_part_⟩ := c.def_ 17 (d := d__law_part) rfl
  have hm__law_part := He.glo_ok X G (c.fact 17 (f := .glo "_law_part") rfl)
  obtain ⟨fd__law_entry, F__law_entry_⟩ := c.def_ 18 (d := d__law_entry) rfl
  have hm__law_entry := He.glo_ok X G (c.fact 18 (f := .glo "_law_entry") rfl)
  obtain ⟨fd__law_read, F__law_read_⟩ := c.def_ 19 (d := d__law_read) rfl
  have hm__law_read := He.glo_ok X G (c.fact 19 (f := .glo "_law_read") rfl)
  obtain ⟨fd__law_line_bent, F__law_line_bent_⟩ := c.def_ 20 (d := d__law_line_bent) rfl
  have hm__law_line_bent := He.glo_ok X G (c.fact 20 (f := .glo "_law_line_bent") rfl)
  obtain ⟨fd__law_bent, F__law_bent_⟩ := c.def_ 21 (d := d__law_bent) rfl
  have hm__law_bent := He.glo_ok X G (c.fact 21 (f := .glo "_law_bent") rfl)
  obtain ⟨fd__law_right, F__law_right_⟩ := c.def_ 22 (d := d__law_right) rfl
  have hm__law_right := He.glo_ok X G (c.fact 22 (f := .glo "_law_right") rfl)
  obtain ⟨fd_law, F_law_⟩ := c.def_ 23 (d := d_law) rfl
  have hm_law := He.glo_ok X G (c.fact 23 (f := .glo "law") rfl)
  have e := hfa.symm.trans hm_law
  cases e
  refine ⟨fd_law, fun s v => FunD.bindsA (ps := ["script"]) F_law_ (fun _ _ _ _ _ _ us hl => match us, hl with | [_], _ => rfl) s [v] rfl, fun base _ _ => ?_⟩
  have G_is_whole : Good P w K mg base 1 "is_whole" 1 F_is_whole := ok_is_whole hm_is_whole F_is_whole_ fr
  have G_is_name : Good P w K mg base 1 "is_name" 1 F_is_name := ok_is_name hm_is_name F_is_name_ fr c_LONGEST c_LETTERS
  have G_is_house : Good P w K mg base 2 "is_house" 2 F_is_house := ok_is_house hm_is_house F_is_house_ fr G_is_whole
  have G_is_side : Good P w K mg base 3 "is_side" 2 F_is_side := ok_is_side hm_is_side F_is_side_ fr G_is_house
  have G_need : Good P w K mg base 1 "need" 1 F_need := ok_need hm_need F_need_ fr c_E
  have G_number_of : Good P w K mg base 2 "number_of" 1 F_number_of := ok_number_of hm_number_of F_number_of_ fr c_FIGURES G_need
  have G_part_of : Good P w K mg base 4 "part_of" 3 F_part_ofX := ok_part_of hm_part_of F_part_of_ fr G_need G_is_name G_number_of G_is_side G_is_house
  have G_row_of : Good P w K mg base 5 "row_of" 3 F_row_ofX := ok_row_of hm_row_of F_row_of_ fr G_need G_part_of
  have G_read_log : Good P w K mg base 6 "read_log" 2 F_read_logX := ok_read_log hm_read_log F_read_log_ fr c_ENTRIES G_row_of
  have G__law_mixed : Good P w K mg base 1 "_law_mixed" 2 F__law_mixed := ok__law_mixed hm__law_mixed F__law_mixed_ fr
  have G__law_pot : Good P w K mg base 1 "_law_pot" 1 F__law_pot := ok__law_pot hm__law_pot F__law_pot_ fr
  have G__law_take : Good P w K mg base 2 "_law_take" 2 F__law_pull := ok__law_take hm__law_take F__law_take_ fr G__law_mixed
  have G__law_name : Good P w K mg base 3 "_law_name" 1 F__law_nameT := ok__law_name hm__law_name F__law_name_ fr G__law_take
  have G__law_number : Good P w K mg base 3 "_law_number" 2 F__law_numberT := ok__law_number hm__law_number F__law_number_ fr G__law_take
  have G__law_any_deed : Good P w K mg base 4 "_law_any_deed" 2 F__law_any_deed := ok__law_any_deed hm__law_any_deed F__law_any_deed_ fr G__law_take G__law_name G__law_number
  have G__law_any_entry : Good P w K mg base 4 "_law_any_entry" 2 F__law_any_entry := ok__law_any_entry hm__law_any_entry F__law_any_entry_ fr G__law_take G__law_name G__law_number
  have G__law_shown : Good P w K mg base 1 "_law_shown" 1 F__law_shown := ok__law_shown hm__law_shown F__law_shown_ fr
  have G__law_part : Good P w K mg base 1 "_law_part" 3 F__law_part := ok__law_part hm__law_part F__law_part_ fr
  have G__law_entry : Good P w K mg base 2 "_law_entry" 2 F__law_entry_o := ok__law_entry hm__law_entry F__law_entry_ fr G__law_part
  have G__law_read : Good P w K mg base 3 "_law_read" 2 F__law_read := ok__law_read hm__law_read F__law_read_ fr G__law_entry
  have G__law_line_bent : Good P w K mg base 3 "_law_line_bent" 2 F__law_line_bent := ok__law_line_bent hm__law_line_bent F__law_line_bent_ fr G__law_take
  have G__law_bent : Good P w K mg base 4 "_law_bent" 2 F__law_bent := ok__law_bent hm__law_bent F__law_bent_ fr G__law_take G__law_line_bent
  have G__law_right : Good P w K mg base 7 "_law_right" 2 F__law_right := ok__law_right hm__law_right F__law_right_ fr c_E G__law_read G_read_log
  exact fn_law F_law_ fr G__law_pot G__law_take G__law_any_entry G__law_shown G__law_bent G__law_right G__law_any_deed
end Wk49
open PySem PySem.W PySem.Calls PyProof.Rows
theorem PySem.Challenge.cw_onename_k49_texts_of_no_log_holds : PySem.Challenge.rw_onename_k49_texts_of_no_log.Holds := by
  w_on; o_law
  refine HandSHeadRun.head_any (r := OpenLaw.row PySem.Challenge.rw_onename_k49_texts_of_no_log) (q := view (OpenLaw.row PySem.Challenge.rw_onename_k49_texts_of_no_log).prog [41]) (H := Wk49.hk) (ob := Wk49.ob) (M := 8000) (loose := Wk49.names) (d := HandSHeadRun.topDef (OpenLaw.row PySem.Challenge.rw_onename_k49_texts_of_no_log).prog 41) (kwd := []) Wk49.ob_eq
    (by kernel_rfl) (fun s => by kernel_rfl) Wk49.run (by kernel_rfl) (by kernel_rfl) (by kernel_rfl) (by rfl) (by first | assumption | decide +kernel) (by decide +kernel) ⟨rfl, rfl, rfl, rfl, rfl, by decide +kernel⟩ ?hw ?hc
  case hw => w_witness2
  case hc =>
    refine DL.walk_ofW (l := PySem.Challenge.rw_onename_k49_texts_of_no_log) (n := 63) (k := 8) (x := "script") rfl (by decide) (by kernel_rfl) ⟨rfl, by decide, by decide⟩ ?F
    intro w mg fa h Y G hmg0
    obtain ⟨K, KX, c⟩ := Y
    have hmg : mg ("law" : PySem.Str) = some (.ref fa) := by
      have e : (HandSHeadRun.topDef (OpenLaw.row PySem.Challenge.rw_onename_k49_texts_of_no_log).prog 41).name = ("law" : PySem.Str) := by kernel_rfl
      rw [← e]
      exact hmg0
    obtain ⟨fd, hb, hF⟩ := Wk49.facts (P := (PySem.Challenge.rw_onename_k49_texts_of_no_log).prog) (w := w) KX G hmg c
    exact ⟨K, fd, DL.spF K mg 1 Wk49.F_law, KX, hb, fun H a ns hl hO hS => DL.law_start hl (by decide) hS Wk49.law_true, hF⟩
