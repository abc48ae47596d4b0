import PyProof.Rows.All
import Wide.All
import OpenK.AllK
import Wide.FinOn
import KE.KStateDown
import KE.KExcIs
import HandS.ForMost
import HandS.Exc
import HandS.ExcInit
import HandS.ExcIs
import HandS.WordsExc
import HandS.Defaults
import HandS.IsInst
import HandS.HeadHook1
import HandS.HeadHook2
import HandS.HeadNt
import HandS.Head0
import HandS.Head1
import HandS.Head2
import HandS.Strs
import HandS.Conv
import HandS.NoneIn
import HandS.Style
import HandS.Walk
import KE.IntTextText
import HandS.HeadEnd
import PySem.Challenge.RW_flywright_k10_whole_sheets_to_text_and_b
/-! ==== Fw ==== -/
set_option Elab.async false
set_option linter.all false
set_option maxRecDepth 100000
set_option maxHeartbeats 4000000
namespace Fw
open PySem PySem.Spec PyProof.Rows L2
/-! ### the statements by places, each def as a datum (printed by gen_head.py, fw.py) -/
def top (i : Nat) : Stmt := PySem.Challenge.pw_flywright_k10_whole_sheets_to_text_and_b.main.body.getD i (.Pass ⟨0, 0, 0, 0⟩)
abbrev s_BadRow_init : Stmt := inClass (top 14) 0
abbrev s_is_whole : Stmt := top 16
abbrev s_is_name : Stmt := top 21
abbrev s_number_in : Stmt := top 25
abbrev s_is_move : Stmt := top 31
abbrev s_is_follower : Stmt := top 32
abbrev s_are_unlike : Stmt := top 33
abbrev s_is_cue : Stmt := top 34
abbrev s_need_cues : Stmt := top 35
abbrev s_Sheet_init : Stmt := inClass (top 36) 0
abbrev s_Sheet_names : Stmt := inClass (top 36) 1
abbrev s_Sheet_cues : Stmt := inClass (top 36) 2
abbrev s_Sheet_need_cue : Stmt := inClass (top 36) 3
abbrev s_Sheet_moves : Stmt := inClass (top 36) 4
abbrev s_Sheet_followers : Stmt := inClass (top 36) 5
abbrev s_Sheet_text : Stmt := inClass (top 36) 8
abbrev s_SheetReader_init : Stmt := inClass (top 37) 0
abbrev s_SheetReader_is_open : Stmt := inClass (top 37) 1
abbrev s_SheetReader_takes_cue : Stmt := inClass (top 37) 2
abbrev s_SheetReader_takes_move : Stmt := inClass (top 37) 3
abbrev s_SheetReader_takes_follower : Stmt := inClass (top 37) 4
abbrev s_SheetReader_takes : Stmt := inClass (top 37) 5
abbrev s_read_sheet : Stmt := top 38
abbrev s_law_next : Stmt := top 40
abbrev s_law_names : Stmt := top 41
abbrev s_law_place : Stmt := top 42
abbrev s_law_wait : Stmt := top 44
abbrev s_law_moves : Stmt := top 45
abbrev s_law_followers : Stmt := top 46
abbrev s_law_cues : Stmt := top 47
abbrev s_law_bounds : Stmt := top 48
abbrev s_law_cues_right : Stmt := top 49
abbrev s_law_text : Stmt := top 50
abbrev s_law_word : Stmt := top 51
abbrev s_law_odd_word : Stmt := top 52
abbrev s_law_bent_words : Stmt := top 53
abbrev s_law_bent : Stmt := top 54
abbrev s_law_number : Stmt := top 55
abbrev s_law_is_name : Stmt := top 56
abbrev s_law_takes : Stmt := top 57
abbrev s_law_read : Stmt := top 58
abbrev s_law_said : Stmt := top 59
abbrev s_law_right : Stmt := top 60
abbrev s_law : Stmt := top 61
def d_BadRow_init : He.DefD := ⟨("BadRow", some "__init__"), "__init__", "BadRow.__init__", defArgs s_BadRow_init, defBody s_BadRow_init, defScope s_BadRow_init, [], []⟩
def d_is_whole : He.DefD := ⟨("is_whole", none), "is_whole", "is_whole", defArgs s_is_whole, defBody s_is_whole, defScope s_is_whole, [], []⟩
def d_is_name : He.DefD := ⟨("is_name", none), "is_name", "is_name", defArgs s_is_name, defBody s_is_name, defScope s_is_name, [], []⟩
def d_number_in : He.DefD := ⟨("number_in", none), "number_in", "number_in", defArgs s_number_in, defBody s_number_in, defScope s_number_in, [], []⟩
def d_is_move : He.DefD := ⟨("is_move", none), "is_move", "is_move", defArgs s_is_move, defBody s_is_move, defScope s_is_move, [], []⟩
def d_is_follower : He.DefD := ⟨("is_follower", none), "is_follower", "is_follower", defArgs s_is_follower, defBody s_is_follower, defScope s_is_follower, [], []⟩
def d_are_unlike : He.DefD := ⟨("are_unlike", none), "are_unlike", "are_unlike", defArgs s_are_unlike, defBody s_are_unlike, defScope s_are_unlike, [], []⟩
def d_is_cue : He.DefD := ⟨("is_cue", none), "is_cue", "is_cue", defArgs s_is_cue, defBody s_is_cue, defScope s_is_cue, [], []⟩
def d_need_cues : He.DefD := ⟨("need_cues", none), "need_cues", "need_cues", defArgs s_need_cues, defBody s_need_cues, defScope s_need_cues, [], []⟩
def d_Sheet_init : He.DefD := ⟨("Sheet", some "__init__"), "__init__", "Sheet.__init__", defArgs s_Sheet_init, defBody s_Sheet_init, defScope s_Sheet_init, [], []⟩
def d_Sheet_names : He.DefD := ⟨("Sheet", some "names"), "names", "Sheet.names", defArgs s_Sheet_names, defBody s_Sheet_names, defScope s_Sheet_names, [], []⟩
def d_Sheet_cues : He.DefD := ⟨("Sheet", some "cues"), "cues", "Sheet.cues", defArgs s_Sheet_cues, defBody s_Sheet_cues, defScope s_Sheet_cues, [], []⟩
def d_Sheet_need_cue : He.DefD := ⟨("Sheet", some "need_cue"), "need_cue", "Sheet.need_cue", defArgs s_Sheet_need_cue, defBody s_Sheet_need_cue, defScope s_Sheet_need_cue, [], []⟩
def d_Sheet_moves : He.DefD := ⟨("Sheet", some "moves"), "moves", "Sheet.moves", defArgs s_Sheet_moves, defBody s_Sheet_moves, defScope s_Sheet_moves, [], []⟩
def d_Sheet_followers : He.DefD := ⟨("Sheet", some "followers"), "followers", "Sheet.followers", defArgs s_Sheet_followers, defBody s_Sheet_followers, defScope s_Sheet_followers, [], []⟩
def d_Sheet_text : He.DefD := ⟨("Sheet", some "text"), "text", "Sheet.text", defArgs s_Sheet_text, defBody s_Sheet_text, defScope s_Sheet_text, [], []⟩
def d_SheetReader_init : He.DefD := ⟨("SheetReader", some "__init__"), "__init__", "SheetReader.__init__", defArgs s_SheetReader_init, defBody s_SheetReader_init, defScope s_SheetReader_init, [], []⟩
def d_SheetReader_is_open : He.DefD := ⟨("SheetReader", some "is_open"), "is_open", "SheetReader.is_open", defArgs s_SheetReader_is_open, defBody s_SheetReader_is_open, defScope s_SheetReader_is_open, [], []⟩
def d_SheetReader_takes_cue : He.DefD := ⟨("SheetReader", some "takes_cue"), "takes_cue", "SheetReader.takes_cue", defArgs s_SheetReader_takes_cue, defBody s_SheetReader_takes_cue, defScope s_SheetReader_takes_cue, [], []⟩
def d_SheetReader_takes_move : He.DefD := ⟨("SheetReader", some "takes_move"), "takes_move", "SheetReader.takes_move", defArgs s_SheetReader_takes_move, defBody s_SheetReader_takes_move, defScope s_SheetReader_takes_move, [], []⟩
def d_SheetReader_takes_follower : He.DefD := ⟨("SheetReader", some "takes_follower"), "takes_follower", "SheetReader.takes_follower", defArgs s_SheetReader_takes_follower, defBody s_SheetReader_takes_follower, defScope s_SheetReader_takes_follower, [], []⟩
def d_SheetReader_takes : He.DefD := ⟨("SheetReader", some "takes"), "takes", "SheetReader.takes", defArgs s_SheetReader_takes, defBody s_SheetReader_takes, defScope s_SheetReader_takes, [], []⟩
def d_read_sheet : He.DefD := ⟨("read_sheet", none), "read_sheet", "read_sheet", defArgs s_read_sheet, defBody s_read_sheet, defScope s_read_sheet, [], []⟩
def d_law_next : He.DefD := ⟨("_law_next", none), "_law_next", "_law_next", defArgs s_law_next, defBody s_law_next, defScope s_law_next, [], []⟩
def d_law_names : He.DefD := ⟨("_law_names", none), "_law_names", "_law_names", defArgs s_law_names, defBody s_law_names, defScope s_law_names, [], []⟩
def d_law_place : He.DefD := ⟨("_law_place", none), "_law_place", "_law_place", defArgs s_law_place, defBody s_law_place, defScope s_law_place, [], []⟩
def d_law_wait : He.DefD := ⟨("_law_wait", none), "_law_wait", "_law_wait", defArgs s_law_wait, defBody s_law_wait, defScope s_law_wait, [], []⟩
def d_law_moves : He.DefD := ⟨("_law_moves", none), "_law_moves", "_law_moves", defArgs s_law_moves, defBody s_law_moves, defScope s_law_moves, [], []⟩
def d_law_followers : He.DefD := ⟨("_law_followers", none), "_law_followers", "_law_followers", defArgs s_law_followers, defBody s_law_followers, defScope s_law_followers, [], []⟩
def d_law_cues : He.DefD := ⟨("_law_cues", none), "_law_cues", "_law_cues", defArgs s_law_cues, defBody s_law_cues, defScope s_law_cues, [], []⟩
def d_law_bounds : He.DefD := ⟨("_law_bounds", none), "_law_bounds", "_law_bounds", defArgs s_law_bounds, defBody s_law_bounds, defScope s_law_bounds, [], []⟩
def d_law_cues_right : He.DefD := ⟨("_law_cues_right", none), "_law_cues_right", "_law_cues_right", defArgs s_law_cues_right, defBody s_law_cues_right, defScope s_law_cues_right, [], []⟩
def d_law_text : He.DefD := ⟨("_law_text", none), "_law_text", "_law_text", defArgs s_law_text, defBody s_law_text, defScope s_law_text, [], []⟩
def d_law_word : He.DefD := ⟨("_law_word", none), "_law_word", "_law_word", defArgs s_law_word, defBody s_law_word, defScope s_law_word, [], []⟩
def d_law_odd_word : He.DefD := ⟨("_law_odd_word", none), "_law_odd_word", "_law_odd_word", defArgs s_law_odd_word, defBody s_law_odd_word, defScope s_law_odd_word, [], []⟩
def d_law_bent_words : He.DefD := ⟨("_law_bent_words", none), "_law_bent_words", "_law_bent_words", defArgs s_law_bent_words, defBody s_law_bent_words, defScope s_law_bent_words, [], []⟩
def d_law_bent : He.DefD := ⟨("_law_bent", none), "_law_bent", "_law_bent", defArgs s_law_bent, defBody s_law_bent, defScope s_law_bent, [], []⟩
def d_law_number : He.DefD := ⟨("_law_number", none), "_law_number", "_law_number", defArgs s_law_number, defBody s_law_number, defScope s_law_number, [], []⟩
def d_law_is_name : He.DefD := ⟨("_law_is_name", none), "_law_is_name", "_law_is_name", defArgs s_law_is_name, defBody s_law_is_name, defScope s_law_is_name, [], []⟩
def d_law_takes : He.DefD := ⟨("_law_takes", none), "_law_takes", "_law_takes", defArgs s_law_takes, defBody s_law_takes, defScope s_law_takes, [], []⟩
def d_law_read : He.DefD := ⟨("_law_read", none), "_law_read", "_law_read", defArgs s_law_read, defBody s_law_read, defScope s_law_read, [], []⟩
def d_law_said : He.DefD := ⟨("_law_said", none), "_law_said", "_law_said", defArgs s_law_said, defBody s_law_said, defScope s_law_said, [], []⟩
def d_law_right : He.DefD := ⟨("_law_right", none), "_law_right", "_law_right", defArgs s_law_right, defBody s_law_right, defScope s_law_right, [], []⟩
def d_law : He.DefD := ⟨("law", none), "law", "law", defArgs s_law, defBody s_law, defScope s_law, [], []⟩
def fns0 : List He.DefD := [d_BadRow_init, d_is_whole, d_is_name, d_number_in, d_is_move, d_is_follower, d_are_unlike, d_is_cue, d_need_cues, d_Sheet_init, d_Sheet_names, d_Sheet_cues, d_Sheet_need_cue, d_Sheet_moves, d_Sheet_followers, d_Sheet_text]
def fns1 : List He.DefD := [d_SheetReader_init, d_SheetReader_is_open, d_SheetReader_takes_cue, d_SheetReader_takes_move, d_SheetReader_takes_follower, d_SheetReader_takes, d_read_sheet, d_law_next, d_law_names, d_law_place, d_law_wait, d_law_moves, d_law_followers, d_law_cues, d_law_bounds, d_law_cues_right]
def fns2 : List He.DefD := [d_law_text, d_law_word, d_law_odd_word, d_law_bent_words, d_law_bent, d_law_number, d_law_is_name, d_law_takes, d_law_read, d_law_said, d_law_right, d_law]
def fns : List He.DefD := fns0 ++ fns1 ++ fns2
def fas0 : List He.Fa := [.glo "is_whole", .glo "is_name", .glo "number_in", .glo "is_move", .glo "is_follower", .glo "are_unlike", .glo "is_cue", .glo "need_cues", .glo "read_sheet", .glo "_law_next", .glo "_law_names", .glo "_law_place", .glo "_law_wait", .glo "_law_moves", .glo "_law_followers", .glo "_law_cues"]
def fas1 : List He.Fa := [.glo "_law_bounds", .glo "_law_cues_right", .glo "_law_text", .glo "_law_word", .glo "_law_odd_word", .glo "_law_bent_words", .glo "_law_bent", .glo "_law_number", .glo "_law_is_name", .glo "_law_takes", .glo "_law_read", .glo "_law_said", .glo "_law_right", .glo "law", .glo "StageError", .glo "BadNumber"]
def fas2 : List He.Fa := [.glo "BadName", .glo "BadStage", .glo "BadSheet", .glo "TooLong", .glo "Busy", .glo "TooNear", .glo "Stopped", .glo "NotStopped", .glo "Moving", .glo "NoCue", .glo "BadRow", .glo "Sheet", .glo "SheetReader", .free "len", .free "isinstance", .free "int"]
def fas3 : List He.Fa := [.free "bool", .free "str", .free "tuple", .free "list", .free "all", .free "set", .free "range", .free "enumerate", .free "sorted", .free "ValueError", .str "LETTERS" "abcdefghijklmnopqrstuvwxyz", .int "MOST_LETTERS" 8, .int "MOST_PLACE" 1000000000, .str "FIGURES" "0123456789", .int "MOST_FIGURES" 10, .int "MOST_WAIT" 50]
def fas4 : List He.Fa := [.int "MOST_CUES" 12, .int "MOST_MOVES" 6, .int "MOST_FOLLOWERS" 3, .cls "Sheet", .mkr "Sheet", .cls "SheetReader", .mkr "SheetReader", .noat "Sheet" "moves_by", .noat "Sheet" "followers_by", .noat "SheetReader" "found", .meth "Sheet" "names", .meth "Sheet" "cues", .meth "Sheet" "need_cue", .meth "Sheet" "moves", .meth "Sheet" "followers", .meth "Sheet" "text"]
def fas5 : List He.Fa := [.meth "SheetReader" "is_open", .meth "SheetReader" "takes_cue", .meth "SheetReader" "takes_move", .meth "SheetReader" "takes_follower", .meth "SheetReader" "takes", .exm "BadRow" "StageError" true]
def fas : List He.Fa := fas0 ++ fas1 ++ fas2 ++ fas3 ++ fas4 ++ fas5
/-! ### facts of the classes of errors, of Sheet: what the head's further Bool looks at -/
abbrev aBR (K : PySem.W.Frag) : Addr := He.ga K "BadRow"
abbrev aSE (K : PySem.W.Frag) : Addr := He.ga K "StageError"
abbrev aSh (K : PySem.W.Frag) : Addr := He.ga K "Sheet"
def excB (K : PySem.W.Frag) (C : Addr) : Bool := match K.lookup C with
  | some ⟨.type "type", _, .cls cd, sl⟩ => (match cd.mro, sl.toList with
    | .ref C' :: bm, [_, _, _, _, some (.builtin n), _] => decide (C' = C) && (decide (n = "ValueError.__new__") && (!cd.hasDel && (cd.hasDict && PySem.HandSPX.refsVE bm)))
    | _, _ => false)
  | _ => false
theorem excB_ok {K : PySem.W.Frag} {C : Addr} (h : excB K C = true) :
    ∃ nm q N bs bm sn sub ab col dd k0 k1 k2 k3 k5, K.lookup C = some (excClassObj nm q C N bs bm true sn sub ab col dd k0 k1 k2 k3 k5 "ValueError.__new__") ∧ PySem.HandSPX.refsVE bm = true := by
  unfold excB at h
  split at h
  · rename_i dd cd sl ho
    split at h
    · rename_i C' bm k0 k1 k2 k3 n k5 hm hs
      simp only [Bool.and_eq_true, decide_eq_true_eq, Bool.not_eq_true'] at h
      obtain ⟨rfl, rfl, hdel, hdi, ht⟩ := h
      obtain ⟨nm, bs, mro, ns, qn, hd, sn, sub, ab, col, del⟩ := cd
      dsimp only at hm hdel hdi
      subst hm hdel hdi
      obtain ⟨l⟩ := sl
      dsimp only at hs
      subst hs
      exact ⟨_, _, _, _, _, _, _, _, _, _, _, _, _, _, _, ho, ht⟩
    · cases h
  · cases h
def valB (K : PySem.W.Frag) : Bool := match PySem.W.findCls K (.ref (aSE K)) (.type "type") "__init__" with
  | some (.val (.builtin n)) => decide (n = "ValueError.__init__")
  | _ => false
theorem valB_ok {K : PySem.W.Frag} (h : valB K = true) : PySem.W.findCls K (.ref (aSE K)) (.type "type") "__init__" = some (.val (.builtin "ValueError.__init__")) := by
  unfold valB at h
  split at h
  · rename_i n e
    rw [e, of_decide_eq_true h]
  · cases h
abbrev owns : List Str := ["Busy", "Moving", "NotStopped", "Stopped", "TooLong", "TooNear"]
def ocl (K : PySem.W.Frag) (C : Addr) : Bool := PySem.W.hasDictIn K C && (He.eqO (PySem.W.findIn K (.ref C) "__class__") (some (some (.builtin "object.__class__"))) && decide (PySem.W.mroIn K C (.type "object") = some true))
def b1 (K : PySem.W.Frag) : Bool := excB K (aBR K) && (ocl K (aBR K) && (ocl K (aSh K) && (valB K && PySem.W.readsIn K (aSE K) (.type "type"))))
def b2 (K : PySem.W.Frag) : Bool := He.eqO (PySem.W.findIn K (.ref (aBR K)) "__setattr__") (some (some (.builtin "object.__setattr__"))) && (He.eqO (PySem.W.findIn K (.ref (aBR K)) "__getattribute__") (some (some (.builtin "BaseException.__getattribute__"))) &&
  (He.eqO (PySem.W.findIn K (.ref (aBR K)) "__getattr__") (some none) && (He.eqO (PySem.W.findIn K (.ref (aBR K)) "row") (some none) && He.eqO (PySem.W.findIn K (.ref (aBR K)) "__init__") (some (some (.ref (He.ma K (aBR K) "__init__")))))))
def b3 (K : PySem.W.Frag) : Bool := decide (PySem.W.typeIn K (.ref (He.ma K (aBR K) "__init__")) = some (.type "function")) && (decide (PySem.W.subIn K (.ref (aBR K)) (.type "BaseException") = some true) && (decide (PySem.W.typeIn K (.ref (aBR K)) = some (.type "type")) && (PySem.W.keepIn K (.ref (aBR K)) &&
  He.eqO (PySem.W.specialIn K (.ref (aSE K)) "__getattribute__") (some (some (.builtin "type.__getattribute__"))))))
def b4 (K : PySem.W.Frag) : Bool := He.eqO (PySem.W.specialIn K (.builtin "object.__class__") "__get__") (some (some (.builtin "getset_descriptor.__get__"))) && (decide (PySem.W.takesIn K (.builtin "object.__class__") = some true) &&
  (decide (PySem.W.kitOne K (.ref (aBR K)) (.ref (aBR K)) = some true) && (decide (PySem.W.kitOne K (.ref (aBR K)) (.type "ValueError") = some true) && (decide (PySem.W.kitOne K (.ref (aSh K)) (.ref (aSh K)) = some true) && PySem.W.keepIn K (.ref (aSh K))))))
def b5 (K : PySem.W.Frag) : Bool := (["BadStage", "BadNumber", "BadName", "BadSheet", "NoCue"] : List Str).all fun x => decide (PySem.W.kitOne K (.ref (aBR K)) (.ref (He.ga K x)) = some false)
def b6 (K : PySem.W.Frag) : Bool := decide (PySem.W.kitAny K (.ref (aBR K)) (owns.map fun x => .ref (He.ga K x)) = some false)
def exB (K : PySem.W.Frag) : Bool := b1 K && (b2 K && (b3 K && (b4 K && (b5 K && b6 K))))
/-! ### the Hook -/
abbrev AlZ : Type := He.AlD × Bool
def asZ (g : Addr → Option Obj) (n : Nat) : List Addr := He.asD g n ++ [cStatics]
def obsK (K : PySem.W.Frag) : AlZ := (He.obsD fas fns K, exB K)
def obsZ (g : Addr → Option Obj) : AlZ := obsK (He.frG g (asZ g 5))
def hookZ : PySem.W.Hook where
  α := AlZ
  obs := fun s => obsZ s.heap.get?
  val := fun _ => (He.valD fns, true)
  says := fun _ h => ∃ K : PySem.W.Frag, K.In h ∧ obsK K = (He.valD fns, true)
  of := fun _ _ e => ⟨_, He.frG_in, e⟩
  keeps := fun _ _ _ ⟨K, hK, c⟩ k => ⟨K, PySem.W.Frag.In.keeps hK k, c⟩
theorem obsZ_eq {g : Addr → Option Obj} {s : Shared} (h : ∀ a, g a = s.heap.get? a) : obsZ g = hookZ.obs s := by
  have e : g = s.heap.get? := funext h
  rw [e] <;> rfl
/-! ### what the walks lean on -/
def FunI (K : PySem.W.Frag) (x qual : Str) (st : Stmt) (f : Addr) : Prop := ∃ fd, Fun K x qual st f fd
/-- what the top says of BadRow -/
structure BRF (K : PySem.W.Frag) : Prop where
  oex : OexC K (aBR K)
  ga : PySem.W.findIn K (.ref (aBR K)) "__getattribute__" = some (some (.builtin "BaseException.__getattribute__"))
  gg : PySem.W.findIn K (.ref (aBR K)) "__getattr__" = some none
  noRow : PySem.W.findIn K (.ref (aBR K)) "row" = some none
  ini : PySem.W.findIn K (.ref (aBR K)) "__init__" = some (some (.ref (He.ma K (aBR K) "__init__")))
  tI : PySem.W.typeIn K (.ref (He.ma K (aBR K) "__init__")) = some (.type "function")
  hd : PySem.W.hasDictIn K (aBR K) = true
  cl : PySem.W.findIn K (.ref (aBR K)) "__class__" = some (some (.builtin "object.__class__"))
  mo : PySem.W.mroIn K (aBR K) (.type "object") = some true
  sp : PySem.W.specialIn K (.builtin "object.__class__") "__get__" = some (some (.builtin "getset_descriptor.__get__"))
  tk : PySem.W.takesIn K (.builtin "object.__class__") = some true
  seR : PySem.W.readsIn K (aSE K) (.type "type") = true
  seG : PySem.W.specialIn K (.ref (aSE K)) "__getattribute__" = some (some (.builtin "type.__getattribute__"))
  seV : PySem.W.findCls K (.ref (aSE K)) (.type "type") "__init__" = some (.val (.builtin "ValueError.__init__"))
  isRow : PySem.W.kitOne K (.ref (aBR K)) (.ref (aBR K)) = some true
  isVE : PySem.W.kitOne K (.ref (aBR K)) (.type "ValueError") = some true
  isnt : ∀ x ∈ (["BadStage", "BadNumber", "BadName", "BadSheet", "NoCue"] : List Str), PySem.W.kitOne K (.ref (aBR K)) (.ref (He.ga K x)) = some false
  isnts : PySem.W.kitAny K (.ref (aBR K)) (owns.map fun x => .ref (He.ga K x)) = some false
/-- what the top says of Sheet, besides -/
structure ShF (K : PySem.W.Frag) : Prop where
  cl : PySem.W.findIn K (.ref (aSh K)) "__class__" = some (some (.builtin "object.__class__"))
  mo : PySem.W.mroIn K (aSh K) (.type "object") = some true
  isSh : PySem.W.kitOne K (.ref (aSh K)) (.ref (aSh K)) = some true
theorem brf_of {K : PySem.W.Frag} (h : exB K = true) : BRF K ∧ ShF K := by
  unfold exB b1 b2 b3 b4 b5 b6 ocl at h
  simp only [Bool.and_eq_true, decide_eq_true_eq, List.all_eq_true] at h
  obtain ⟨⟨x1, ⟨x2, x3, x4⟩, ⟨_, x6, x7⟩, x8, x9⟩, ⟨y1, y2, y3, y4, y5⟩, ⟨z1, z2, z3, z4, z5⟩, ⟨u1, u2, u3, u4, u5, _⟩, v, w⟩ := h
  exact ⟨⟨⟨excB_ok x1, He.eqO_ok y1, z2, z3, z4⟩, He.eqO_ok y2, He.eqO_ok y3, He.eqO_ok y4, He.eqO_ok y5, z1, x2, He.eqO_ok x3, x4, He.eqO_ok u1, u2, x9, He.eqO_ok z5, valB_ok x8, u3, u4, v, w⟩, ⟨He.eqO_ok x6, x7, u5⟩⟩
structure Tx (K : PySem.W.Frag) (mg : Str → Option Value) : Prop where
  g_is_whole : mg "is_whole" = some (.ref (He.ga K "is_whole"))
  g_is_name : mg "is_name" = some (.ref (He.ga K "is_name"))
  g_number_in : mg "number_in" = some (.ref (He.ga K "number_in"))
  g_is_move : mg "is_move" = some (.ref (He.ga K "is_move"))
  g_is_follower : mg "is_follower" = some (.ref (He.ga K "is_follower"))
  g_are_unlike : mg "are_unlike" = some (.ref (He.ga K "are_unlike"))
  g_is_cue : mg "is_cue" = some (.ref (He.ga K "is_cue"))
  g_need_cues : mg "need_cues" = some (.ref (He.ga K "need_cues"))
  g_read_sheet : mg "read_sheet" = some (.ref (He.ga K "read_sheet"))
  g_law_next : mg "_law_next" = some (.ref (He.ga K "_law_next"))
  g_law_names : mg "_law_names" = some (.ref (He.ga K "_law_names"))
  g_law_place : mg "_law_place" = some (.ref (He.ga K "_law_place"))
  g_law_wait : mg "_law_wait" = some (.ref (He.ga K "_law_wait"))
  g_law_moves : mg "_law_moves" = some (.ref (He.ga K "_law_moves"))
  g_law_followers : mg "_law_followers" = some (.ref (He.ga K "_law_followers"))
  g_law_cues : mg "_law_cues" = some (.ref (He.ga K "_law_cues"))
  g_law_bounds : mg "_law_bounds" = some (.ref (He.ga K "_law_bounds"))
  g_law_cues_right : mg "_law_cues_right" = some (.ref (He.ga K "_law_cues_right"))
  g_law_text : mg "_law_text" = some (.ref (He.ga K "_law_text"))
  g_law_word : mg "_law_word" = some (.ref (He.ga K "_law_word"))
  g_law_odd_word : mg "_law_odd_word" = some (.ref (He.ga K "_law_odd_word"))
  g_law_bent_words : mg "_law_bent_words" = some (.ref (He.ga K "_law_bent_words"))
  g_law_bent : mg "_law_bent" = some (.ref (He.ga K "_law_bent"))
  g_law_number : mg "_law_number" = some (.ref (He.ga K "_law_number"))
  g_law_is_name : mg "_law_is_name" = some (.ref (He.ga K "_law_is_name"))
  g_law_takes : mg "_law_takes" = some (.ref (He.ga K "_law_takes"))
  g_law_read : mg "_law_read" = some (.ref (He.ga K "_law_read"))
  g_law_said : mg "_law_said" = some (.ref (He.ga K "_law_said"))
  g_law_right : mg "_law_right" = some (.ref (He.ga K "_law_right"))
  g_law : mg "law" = some (.ref (He.ga K "law"))
  g_StageError : mg "StageError" = some (.ref (He.ga K "StageError"))
  g_BadNumber : mg "BadNumber" = some (.ref (He.ga K "BadNumber"))
  g_BadName : mg "BadName" = some (.ref (He.ga K "BadName"))
  g_BadStage : mg "BadStage" = some (.ref (He.ga K "BadStage"))
  g_BadSheet : mg "BadSheet" = some (.ref (He.ga K "BadSheet"))
  g_TooLong : mg "TooLong" = some (.ref (He.ga K "TooLong"))
  g_Busy : mg "Busy" = some (.ref (He.ga K "Busy"))
  g_TooNear : mg "TooNear" = some (.ref (He.ga K "TooNear"))
  g_Stopped : mg "Stopped" = some (.ref (He.ga K "Stopped"))
  g_NotStopped : mg "NotStopped" = some (.ref (He.ga K "NotStopped"))
  g_Moving : mg "Moving" = some (.ref (He.ga K "Moving"))
  g_NoCue : mg "NoCue" = some (.ref (He.ga K "NoCue"))
  g_BadRow : mg "BadRow" = some (.ref (He.ga K "BadRow"))
  g_Sheet : mg "Sheet" = some (.ref (He.ga K "Sheet"))
  g_SheetReader : mg "SheetReader" = some (.ref (He.ga K "SheetReader"))
  b_len : mg "len" = none
  b_isinstance : mg "isinstance" = none
  b_int : mg "int" = none
  b_bool : mg "bool" = none
  b_str : mg "str" = none
  b_tuple : mg "tuple" = none
  b_list : mg "list" = none
  b_all : mg "all" = none
  b_set : mg "set" = none
  b_range : mg "range" = none
  b_enumerate : mg "enumerate" = none
  b_sorted : mg "sorted" = none
  b_ValueError : mg "ValueError" = none
  c_LETTERS : ∃ t, mg "LETTERS" = some (.str "abcdefghijklmnopqrstuvwxyz" t)
  c_MOST_LETTERS : ∃ t, mg "MOST_LETTERS" = some (.int 8 t)
  c_MOST_PLACE : ∃ t, mg "MOST_PLACE" = some (.int 1000000000 t)
  c_FIGURES : ∃ t, mg "FIGURES" = some (.str "0123456789" t)
  c_MOST_FIGURES : ∃ t, mg "MOST_FIGURES" = some (.int 10 t)
  c_MOST_WAIT : ∃ t, mg "MOST_WAIT" = some (.int 50 t)
  c_MOST_CUES : ∃ t, mg "MOST_CUES" = some (.int 12 t)
  c_MOST_MOVES : ∃ t, mg "MOST_MOVES" = some (.int 6 t)
  c_MOST_FOLLOWERS : ∃ t, mg "MOST_FOLLOWERS" = some (.int 3 t)
  cl_Sheet : Cls K (He.ga K "Sheet")
  mk_Sheet : Mk K (He.ga K "Sheet") (He.ma K (He.ga K "Sheet") "__init__")
  cl_SheetReader : Cls K (He.ga K "SheetReader")
  mk_SheetReader : Mk K (He.ga K "SheetReader") (He.ma K (He.ga K "SheetReader") "__init__")
  na_moves_by : NoAttr K (He.ga K "Sheet") "moves_by"
  na_followers_by : NoAttr K (He.ga K "Sheet") "followers_by"
  na_found : NoAttr K (He.ga K "SheetReader") "found"
  m_Sheet_names : Meth K (He.ga K "Sheet") "names" (He.ma K (He.ga K "Sheet") "names")
  m_Sheet_cues : Meth K (He.ga K "Sheet") "cues" (He.ma K (He.ga K "Sheet") "cues")
  m_Sheet_need_cue : Meth K (He.ga K "Sheet") "need_cue" (He.ma K (He.ga K "Sheet") "need_cue")
  m_Sheet_moves : Meth K (He.ga K "Sheet") "moves" (He.ma K (He.ga K "Sheet") "moves")
  m_Sheet_followers : Meth K (He.ga K "Sheet") "followers" (He.ma K (He.ga K "Sheet") "followers")
  m_Sheet_text : Meth K (He.ga K "Sheet") "text" (He.ma K (He.ga K "Sheet") "text")
  m_SheetReader_is_open : Meth K (He.ga K "SheetReader") "is_open" (He.ma K (He.ga K "SheetReader") "is_open")
  m_SheetReader_takes_cue : Meth K (He.ga K "SheetReader") "takes_cue" (He.ma K (He.ga K "SheetReader") "takes_cue")
  m_SheetReader_takes_move : Meth K (He.ga K "SheetReader") "takes_move" (He.ma K (He.ga K "SheetReader") "takes_move")
  m_SheetReader_takes_follower : Meth K (He.ga K "SheetReader") "takes_follower" (He.ma K (He.ga K "SheetReader") "takes_follower")
  m_SheetReader_takes : Meth K (He.ga K "SheetReader") "takes" (He.ma K (He.ga K "SheetReader") "takes")
  ex_BadRow : PySem.W.exmOne K (.ref (He.ga K "BadRow")) (.ref (He.ga K "StageError")) = some true
  f_BadRow_init : FunI K "__init__" "BadRow.__init__" s_BadRow_init (He.fAd K ("BadRow", some "__init__"))
  f_is_whole : FunI K "is_whole" "is_whole" s_is_whole (He.fAd K ("is_whole", none))
  f_is_name : FunI K "is_name" "is_name" s_is_name (He.fAd K ("is_name", none))
  f_number_in : FunI K "number_in" "number_in" s_number_in (He.fAd K ("number_in", none))
  f_is_move : FunI K "is_move" "is_move" s_is_move (He.fAd K ("is_move", none))
  f_is_follower : FunI K "is_follower" "is_follower" s_is_follower (He.fAd K ("is_follower", none))
  f_are_unlike : FunI K "are_unlike" "are_unlike" s_are_unlike (He.fAd K ("are_unlike", none))
  f_is_cue : FunI K "is_cue" "is_cue" s_is_cue (He.fAd K ("is_cue", none))
  f_need_cues : FunI K "need_cues" "need_cues" s_need_cues (He.fAd K ("need_cues", none))
  f_Sheet_init : FunI K "__init__" "Sheet.__init__" s_Sheet_init (He.fAd K ("Sheet", some "__init__"))
  f_Sheet_names : FunI K "names" "Sheet.names" s_Sheet_names (He.fAd K ("Sheet", some "names"))
  f_Sheet_cues : FunI K "cues" "Sheet.cues" s_Sheet_cues (He.fAd K ("Sheet", some "cues"))
  f_Sheet_need_cue : FunI K "need_cue" "Sheet.need_cue" s_Sheet_need_cue (He.fAd K ("Sheet", some "need_cue"))
  f_Sheet_moves : FunI K "moves" "Sheet.moves" s_Sheet_moves (He.fAd K ("Sheet", some "moves"))
  f_Sheet_followers : FunI K "followers" "Sheet.followers" s_Sheet_followers (He.fAd K ("Sheet", some "followers"))
  f_Sheet_text : FunI K "text" "Sheet.text" s_Sheet_text (He.fAd K ("Sheet", some "text"))
  f_SheetReader_init : FunI K "__init__" "SheetReader.__init__" s_SheetReader_init (He.fAd K ("SheetReader", some "__init__"))
  f_SheetReader_is_open : FunI K "is_open" "SheetReader.is_open" s_SheetReader_is_open (He.fAd K ("SheetReader", some "is_open"))
  f_SheetReader_takes_cue : FunI K "takes_cue" "SheetReader.takes_cue" s_SheetReader_takes_cue (He.fAd K ("SheetReader", some "takes_cue"))
  f_SheetReader_takes_move : FunI K "takes_move" "SheetReader.takes_move" s_SheetReader_takes_move (He.fAd K ("SheetReader", some "takes_move"))
  f_SheetReader_takes_follower : FunI K "takes_follower" "SheetReader.takes_follower" s_SheetReader_takes_follower (He.fAd K ("SheetReader", some "takes_follower"))
  f_SheetReader_takes : FunI K "takes" "SheetReader.takes" s_SheetReader_takes (He.fAd K ("SheetReader", some "takes"))
  f_read_sheet : FunI K "read_sheet" "read_sheet" s_read_sheet (He.fAd K ("read_sheet", none))
  f_law_next : FunI K "_law_next" "_law_next" s_law_next (He.fAd K ("_law_next", none))
  f_law_names : FunI K "_law_names" "_law_names" s_law_names (He.fAd K ("_law_names", none))
  f_law_place : FunI K "_law_place" "_law_place" s_law_place (He.fAd K ("_law_place", none))
  f_law_wait : FunI K "_law_wait" "_law_wait" s_law_wait (He.fAd K ("_law_wait", none))
  f_law_moves : FunI K "_law_moves" "_law_moves" s_law_moves (He.fAd K ("_law_moves", none))
  f_law_followers : FunI K "_law_followers" "_law_followers" s_law_followers (He.fAd K ("_law_followers", none))
  f_law_cues : FunI K "_law_cues" "_law_cues" s_law_cues (He.fAd K ("_law_cues", none))
  f_law_bounds : FunI K "_law_bounds" "_law_bounds" s_law_bounds (He.fAd K ("_law_bounds", none))
  f_law_cues_right : FunI K "_law_cues_right" "_law_cues_right" s_law_cues_right (He.fAd K ("_law_cues_right", none))
  f_law_text : FunI K "_law_text" "_law_text" s_law_text (He.fAd K ("_law_text", none))
  f_law_word : FunI K "_law_word" "_law_word" s_law_word (He.fAd K ("_law_word", none))
  f_law_odd_word : FunI K "_law_odd_word" "_law_odd_word" s_law_odd_word (He.fAd K ("_law_odd_word", none))
  f_law_bent_words : FunI K "_law_bent_words" "_law_bent_words" s_law_bent_words (He.fAd K ("_law_bent_words", none))
  f_law_bent : FunI K "_law_bent" "_law_bent" s_law_bent (He.fAd K ("_law_bent", none))
  f_law_number : FunI K "_law_number" "_law_number" s_law_number (He.fAd K ("_law_number", none))
  f_law_is_name : FunI K "_law_is_name" "_law_is_name" s_law_is_name (He.fAd K ("_law_is_name", none))
  f_law_takes : FunI K "_law_takes" "_law_takes" s_law_takes (He.fAd K ("_law_takes", none))
  f_law_read : FunI K "_law_read" "_law_read" s_law_read (He.fAd K ("_law_read", none))
  f_law_said : FunI K "_law_said" "_law_said" s_law_said (He.fAd K ("_law_said", none))
  f_law_right : FunI K "_law_right" "_law_right" s_law_right (He.fAd K ("_law_right", none))
  f_law : FunI K "law" "law" s_law (He.fAd K ("law", none))
  br : BRF K
  sh : ShF K
theorem tx_of {K : PySem.W.Frag} {h : Heap} {mg : Str → Option Value} (X : K.In h) (G : h.Ns mainGlobals mg) (c : obsK K = (He.valD fns, true)) : Tx K mg := by
  have c1 : He.SaysD fas fns K := congrArg (fun z : AlZ => z.1) c
  have c2 : exB K = true := congrArg (fun z : AlZ => z.2) c
  obtain ⟨br, sh⟩ := brf_of c2
  have dd : ∀ (i : Nat) {d : He.DefD} {st : Stmt}, fns[i]? = some d → d.params = defArgs st → d.body = defBody st → d.scope = defScope st → d.dfl = [] → d.kwd = [] → FunI K d.name d.qual st (He.fAd K d.at_) := by
    intro i d st e h1 h2 h3 h4 h5
    obtain ⟨fd, F⟩ := c1.def_ i e
    obtain ⟨a1, a2, a3, a4, a5, a6, a7, a8⟩ := d
    dsimp only at h1 h2 h3 h4 h5
    subst h1 h2 h3 h4 h5
    exact ⟨fd, He5.fun_of F⟩
  exact {
    br := br
    sh := sh
    g_is_whole := He.glo_ok X G (c1.fact 0 (f := .glo "is_whole") rfl)
    g_is_name := He.glo_ok X G (c1.fact 1 (f := .glo "is_name") rfl)
    g_number_in := He.glo_ok X G (c1.fact 2 (f := .glo "number_in") rfl)
    g_is_move := He.glo_ok X G (c1.fact 3 (f := .glo "is_move") rfl)
    g_is_follower := He.glo_ok X G (c1.fact 4 (f := .glo "is_follower") rfl)
    g_are_unlike := He.glo_ok X G (c1.fact 5 (f := .glo "are_unlike") rfl)
    g_is_cue := He.glo_ok X G (c1.fact 6 (f := .glo "is_cue") rfl)
    g_need_cues := He.glo_ok X G (c1.fact 7 (f := .glo "need_cues") rfl)
    g_read_sheet := He.glo_ok X G (c1.fact 8 (f := .glo "read_sheet") rfl)
    g_law_next := He.glo_ok X G (c1.fact 9 (f := .glo "_law_next") rfl)
    g_law_names := He.glo_ok X G (c1.fact 10 (f := .glo "_law_names") rfl)
    g_law_place := He.glo_ok X G (c1.fact 11 (f := .glo "_law_place") rfl)
    g_law_wait := He.glo_ok X G (c1.fact 12 (f := .glo "_law_wait") rfl)
    g_law_moves := He.glo_ok X G (c1.fact 13 (f := .glo "_law_moves") rfl)
    g_law_followers := He.glo_ok X G (c1.fact 14 (f := .glo "_law_followers") rfl)
    g_law_cues := He.glo_ok X G (c1.fact 15 (f := .glo "_law_cues") rfl)
    g_law_bounds := He.glo_ok X G (c1.fact 16 (f := .glo "_law_bounds") rfl)
    g_law_cues_right := He.glo_ok X G (c1.fact 17 (f := .glo "_law_cues_right") rfl)
    g_law_text := He.glo_ok X G (c1.fact 18 (f := .glo "_law_text") rfl)
    g_law_word := He.glo_ok X G (c1.fact 19 (f := .glo "_law_word") rfl)
    g_law_odd_word := He.glo_ok X G (c1.fact 20 (f := .glo "_law_odd_word") rfl)
    g_law_bent_words := He.glo_ok X G (c1.fact 21 (f := .glo "_law_bent_words") rfl)
    g_law_bent := He.glo_ok X G (c1.fact 22 (f := .glo "_law_bent") rfl)
    g_law_number := He.glo_ok X G (c1.fact 23 (f := .glo "_law_number") rfl)
    g_law_is_name := He.glo_ok X G (c1.fact 24 (f := .glo "_law_is_name") rfl)
    g_law_takes := He.glo_ok X G (c1.fact 25 (f := .glo "_law_takes") rfl)
    g_law_read := He.glo_ok X G (c1.fact 26 (f := .glo "_law_read") rfl)
    g_law_said := He.glo_ok X G (c1.fact 27 (f := .glo "_law_said") rfl)
    g_law_right := He.glo_ok X G (c1.fact 28 (f := .glo "_law_right") rfl)
    g_law := He.glo_ok X G (c1.fact 29 (f := .glo "law") rfl)
    g_StageError := He.glo_ok X G (c1.fact 30 (f := .glo "StageError") rfl)
    g_BadNumber := He.glo_ok X G (c1.fact 31 (f := .glo "BadNumber") rfl)
    g_BadName := He.glo_ok X G (c1.fact 32 (f := .glo "BadName") rfl)
    g_BadStage := He.glo_ok X G (c1.fact 33 (f := .glo "BadStage") rfl)
    g_BadSheet := He.glo_ok X G (c1.fact 34 (f := .glo "BadSheet") rfl)
    g_TooLong := He.glo_ok X G (c1.fact 35 (f := .glo "TooLong") rfl)
    g_Busy := He.glo_ok X G (c1.fact 36 (f := .glo "Busy") rfl)
    g_TooNear := He.glo_ok X G (c1.fact 37 (f := .glo "TooNear") rfl)
    g_Stopped := He.glo_ok X G (c1.fact 38 (f := .glo "Stopped") rfl)
    g_NotStopped := He.glo_ok X G (c1.fact 39 (f := .glo "NotStopped") rfl)
    g_Moving := He.glo_ok X G (c1.fact 40 (f := .glo "Moving") rfl)
    g_NoCue := He.glo_ok X G (c1.fact 41 (f := .glo "NoCue") rfl)
    g_BadRow := He.glo_ok X G (c1.fact 42 (f := .glo "BadRow") rfl)
    g_Sheet := He.glo_ok X G (c1.fact 43 (f := .glo "Sheet") rfl)
    g_SheetReader := He.glo_ok X G (c1.fact 44 (f := .glo "SheetReader") rfl)
    b_len := He.free_ok X G (c1.fact 45 (f := .free "len") rfl)
    b_isinstance := He.free_ok X G (c1.fact 46 (f := .free "isinstance") rfl)
    b_int := He.free_ok X G (c1.fact 47 (f := .free "int") rfl)
    b_bool := He.free_ok X G (c1.fact 48 (f := .free "bool") rfl)
    b_str := He.free_ok X G (c1.fact 49 (f := .free "str") rfl)
    b_tuple := He.free_ok X G (c1.fact 50 (f := .free "tuple") rfl)
    b_list := He.free_ok X G (c1.fact 51 (f := .free "list") rfl)
    b_all := He.free_ok X G (c1.fact 52 (f := .free "all") rfl)
    b_set := He.free_ok X G (c1.fact 53 (f := .free "set") rfl)
    b_range := He.free_ok X G (c1.fact 54 (f := .free "range") rfl)
    b_enumerate := He.free_ok X G (c1.fact 55 (f := .free "enumerate") rfl)
    b_sorted := He.free_ok X G (c1.fact 56 (f := .free "sorted") rfl)
    b_ValueError := He.free_ok X G (c1.fact 57 (f := .free "ValueError") rfl)
    c_LETTERS := He.str_ok X G (c1.fact 58 (f := .str "LETTERS" "abcdefghijklmnopqrstuvwxyz") rfl)
    c_MOST_LETTERS := He.int_ok X G (c1.fact 59 (f := .int "MOST_LETTERS" 8) rfl)
    c_MOST_PLACE := He.int_ok X G (c1.fact 60 (f := .int "MOST_PLACE" 1000000000) rfl)
    c_FIGURES := He.str_ok X G (c1.fact 61 (f := .str "FIGURES" "0123456789") rfl)
    c_MOST_FIGURES := He.int_ok X G (c1.fact 62 (f := .int "MOST_FIGURES" 10) rfl)
    c_MOST_WAIT := He.int_ok X G (c1.fact 63 (f := .int "MOST_WAIT" 50) rfl)
    c_MOST_CUES := He.int_ok X G (c1.fact 64 (f := .int "MOST_CUES" 12) rfl)
    c_MOST_MOVES := He.int_ok X G (c1.fact 65 (f := .int "MOST_MOVES" 6) rfl)
    c_MOST_FOLLOWERS := He.int_ok X G (c1.fact 66 (f := .int "MOST_FOLLOWERS" 3) rfl)
    cl_Sheet := He.cls_ok (c1.fact 67 (f := .cls "Sheet") rfl)
    mk_Sheet := He.mkr_ok (c1.fact 68 (f := .mkr "Sheet") rfl)
    cl_SheetReader := He.cls_ok (c1.fact 69 (f := .cls "SheetReader") rfl)
    mk_SheetReader := He.mkr_ok (c1.fact 70 (f := .mkr "SheetReader") rfl)
    na_moves_by := He.noat_ok (c1.fact 71 (f := .noat "Sheet" "moves_by") rfl)
    na_followers_by := He.noat_ok (c1.fact 72 (f := .noat "Sheet" "followers_by") rfl)
    na_found := He.noat_ok (c1.fact 73 (f := .noat "SheetReader" "found") rfl)
    m_Sheet_names := He.meth_ok (c1.fact 74 (f := .meth "Sheet" "names") rfl)
    m_Sheet_cues := He.meth_ok (c1.fact 75 (f := .meth "Sheet" "cues") rfl)
    m_Sheet_need_cue := He.meth_ok (c1.fact 76 (f := .meth "Sheet" "need_cue") rfl)
    m_Sheet_moves := He.meth_ok (c1.fact 77 (f := .meth "Sheet" "moves") rfl)
    m_Sheet_followers := He.meth_ok (c1.fact 78 (f := .meth "Sheet" "followers") rfl)
    m_Sheet_text := He.meth_ok (c1.fact 79 (f := .meth "Sheet" "text") rfl)
    m_SheetReader_is_open := He.meth_ok (c1.fact 80 (f := .meth "SheetReader" "is_open") rfl)
    m_SheetReader_takes_cue := He.meth_ok (c1.fact 81 (f := .meth "SheetReader" "takes_cue") rfl)
    m_SheetReader_takes_move := He.meth_ok (c1.fact 82 (f := .meth "SheetReader" "takes_move") rfl)
    m_SheetReader_takes_follower := He.meth_ok (c1.fact 83 (f := .meth "SheetReader" "takes_follower") rfl)
    m_SheetReader_takes := He.meth_ok (c1.fact 84 (f := .meth "SheetReader" "takes") rfl)
    ex_BadRow := He.exm_ok (c1.fact 85 (f := .exm "BadRow" "StageError" true) rfl)
    f_BadRow_init := dd 0 (d := d_BadRow_init) (st := s_BadRow_init) rfl rfl rfl rfl rfl rfl
    f_is_whole := dd 1 (d := d_is_whole) (st := s_is_whole) rfl rfl rfl rfl rfl rfl
    f_is_name := dd 2 (d := d_is_name) (st := s_is_name) rfl rfl rfl rfl rfl rfl
    f_number_in := dd 3 (d := d_number_in) (st := s_number_in) rfl rfl rfl rfl rfl rfl
    f_is_move := dd 4 (d := d_is_move) (st := s_is_move) rfl rfl rfl rfl rfl rfl
    f_is_follower := dd 5 (d := d_is_follower) (st := s_is_follower) rfl rfl rfl rfl rfl rfl
    f_are_unlike := dd 6 (d := d_are_unlike) (st := s_are_unlike) rfl rfl rfl rfl rfl rfl
    f_is_cue := dd 7 (d := d_is_cue) (st := s_is_cue) rfl rfl rfl rfl rfl rfl
    f_need_cues := dd 8 (d := d_need_cues) (st := s_need_cues) rfl rfl rfl rfl rfl rfl
    f_Sheet_init := dd 9 (d := d_Sheet_init) (st := s_Sheet_init) rfl rfl rfl rfl rfl rfl
    f_Sheet_names := dd 10 (d := d_Sheet_names) (st := s_Sheet_names) rfl rfl rfl rfl rfl rfl
    f_Sheet_cues := dd 11 (d := d_Sheet_cues) (st := s_Sheet_cues) rfl rfl rfl rfl rfl rfl
    f_Sheet_need_cue := dd 12 (d := d_Sheet_need_cue) (st := s_Sheet_need_cue) rfl rfl rfl rfl rfl rfl
    f_Sheet_moves := dd 13 (d := d_Sheet_moves) (st := s_Sheet_moves) rfl rfl rfl rfl rfl rfl
    f_Sheet_followers := dd 14 (d := d_Sheet_followers) (st := s_Sheet_followers) rfl rfl rfl rfl rfl rfl
    f_Sheet_text := dd 15 (d := d_Sheet_text) (st := s_Sheet_text) rfl rfl rfl rfl rfl rfl
    f_SheetReader_init := dd 16 (d := d_SheetReader_init) (st := s_SheetReader_init) rfl rfl rfl rfl rfl rfl
    f_SheetReader_is_open := dd 17 (d := d_SheetReader_is_open) (st := s_SheetReader_is_open) rfl rfl rfl rfl rfl rfl
    f_SheetReader_takes_cue := dd 18 (d := d_SheetReader_takes_cue) (st := s_SheetReader_takes_cue) rfl rfl rfl rfl rfl rfl
    f_SheetReader_takes_move := dd 19 (d := d_SheetReader_takes_move) (st := s_SheetReader_takes_move) rfl rfl rfl rfl rfl rfl
    f_SheetReader_takes_follower := dd 20 (d := d_SheetReader_takes_follower) (st := s_SheetReader_takes_follower) rfl rfl rfl rfl rfl rfl
    f_SheetReader_takes := dd 21 (d := d_SheetReader_takes) (st := s_SheetReader_takes) rfl rfl rfl rfl rfl rfl
    f_read_sheet := dd 22 (d := d_read_sheet) (st := s_read_sheet) rfl rfl rfl rfl rfl rfl
    f_law_next := dd 23 (d := d_law_next) (st := s_law_next) rfl rfl rfl rfl rfl rfl
    f_law_names := dd 24 (d := d_law_names) (st := s_law_names) rfl rfl rfl rfl rfl rfl
    f_law_place := dd 25 (d := d_law_place) (st := s_law_place) rfl rfl rfl rfl rfl rfl
    f_law_wait := dd 26 (d := d_law_wait) (st := s_law_wait) rfl rfl rfl rfl rfl rfl
    f_law_moves := dd 27 (d := d_law_moves) (st := s_law_moves) rfl rfl rfl rfl rfl rfl
    f_law_followers := dd 28 (d := d_law_followers) (st := s_law_followers) rfl rfl rfl rfl rfl rfl
    f_law_cues := dd 29 (d := d_law_cues) (st := s_law_cues) rfl rfl rfl rfl rfl rfl
    f_law_bounds := dd 30 (d := d_law_bounds) (st := s_law_bounds) rfl rfl rfl rfl rfl rfl
    f_law_cues_right := dd 31 (d := d_law_cues_right) (st := s_law_cues_right) rfl rfl rfl rfl rfl rfl
    f_law_text := dd 32 (d := d_law_text) (st := s_law_text) rfl rfl rfl rfl rfl rfl
    f_law_word := dd 33 (d := d_law_word) (st := s_law_word) rfl rfl rfl rfl rfl rfl
    f_law_odd_word := dd 34 (d := d_law_odd_word) (st := s_law_odd_word) rfl rfl rfl rfl rfl rfl
    f_law_bent_words := dd 35 (d := d_law_bent_words) (st := s_law_bent_words) rfl rfl rfl rfl rfl rfl
    f_law_bent := dd 36 (d := d_law_bent) (st := s_law_bent) rfl rfl rfl rfl rfl rfl
    f_law_number := dd 37 (d := d_law_number) (st := s_law_number) rfl rfl rfl rfl rfl rfl
    f_law_is_name := dd 38 (d := d_law_is_name) (st := s_law_is_name) rfl rfl rfl rfl rfl rfl
    f_law_takes := dd 39 (d := d_law_takes) (st := s_law_takes) rfl rfl rfl rfl rfl rfl
    f_law_read := dd 40 (d := d_law_read) (st := s_law_read) rfl rfl rfl rfl rfl rfl
    f_law_said := dd 41 (d := d_law_said) (st := s_law_said) rfl rfl rfl rfl rfl rfl
    f_law_right := dd 42 (d := d_law_right) (st := s_law_right) rfl rfl rfl rfl rfl rfl
    f_law := dd 43 (d := d_law) (st := s_law) rfl rfl rfl rfl rfl rfl
  }
end Fw

/-! ==== FwRun ==== -/
set_option Elab.async false
set_option linter.all false
set_option maxRecDepth 100000
set_option maxHeartbeats 0
namespace Fw
open PySem PySem.W PySem.Calls PyProof.Rows
abbrev R : OpenRow := OpenLaw.row PySem.Challenge.rw_flywright_k10_whole_sheets_to_text_and_b
def names0 : List PySem.Str := ["_wall", "StageError", "BadNumber", "BadName", "BadStage", "BadSheet", "TooLong", "Busy", "TooNear", "Stopped", "NotStopped", "Moving", "NoCue", "BadRow", "is_whole", "LETTERS", "MOST_LETTERS", "MOST_PLACE", "is_name", "FIGURES"]
def names1 : List PySem.Str := ["MOST_FIGURES", "number_in", "MOST_WAIT", "MOST_CUES", "MOST_MOVES", "MOST_FOLLOWERS", "is_move", "is_follower", "are_unlike", "is_cue", "need_cues", "Sheet", "SheetReader", "read_sheet", "_law_next", "_law_names", "_law_place", "_law_most", "_law_wait", "_law_moves"]
def names2 : List PySem.Str := ["_law_followers", "_law_cues", "_law_bounds", "_law_cues_right", "_law_text", "_law_word", "_law_odd_word", "_law_bent_words", "_law_bent", "_law_number", "_law_is_name", "_law_takes", "_law_read", "_law_said", "_law_right"]
def names : List PySem.Str := names0 ++ names1 ++ names2
def ob (s : PySem.W.SharedT) : AlZ := obsZ (HandSHeadRun.getT s)
theorem ob_eq (s : PySem.W.SharedT) : ob s = hookZ.obs s.abs := obsZ_eq (HandSHeadRun.getT_eq s)
theorem run (w : World) : HandSHeadRun.RunEq R (view R.prog [61]) hookZ ob 6000 names w := by
  intro os
  kernel_rfl
end Fw

/-! ==== FwExc ==== -/
set_option Elab.async false
set_option linter.all false
set_option maxRecDepth 100000
set_option maxHeartbeats 4000000
/-! A caught error that is kept: tracked behind the except suite; isinstance, its field, StageError.__init__ -/
namespace Fw
open PySem PySem.Spec PyProof.Rows L2
/-- at a: an exception of the class cls, its own dict at d -/
def ExK (cls : Value) (d : Option Addr) (a : Addr) : HO := .ext fun h => ∃ (oe : Obj) (vs : Array Value), h.get? a = some oe ∧ Zc cls d oe ∧ oe.data = .fields vs
theorem exk_ok {P : Program} {w : World} {H : Hp} {h : Heap} {a : Addr} {cls : Value} {d : Option Addr} {oe : Obj} {vs : Array Value} (e : h.get? a = some oe) (z : Zc cls d oe) (q : oe.data = .fields vs) : ObjOk P w H h a (ExK cls d a) :=
  ⟨⟨oe, vs, e, z, q⟩, ⟨oe, e⟩, fun _ _ ⟨o, v, q, r⟩ k => ⟨o, v, k o q, r⟩⟩
theorem exk_at {P : Program} {w : World} {H : Hp} {h : Heap} {a : Addr} {cls : Value} {d : Option Addr} (hok : HOk P w H h) (e : H a = some (ExK cls d a)) : ∃ (oe : Obj) (vs : Array Value), h.get? a = some oe ∧ Zc cls d oe ∧ oe.data = .fields vs := by
  have x : ObjOk P w H h a (.ext fun h => ∃ (oe : Obj) (vs : Array Value), h.get? a = some oe ∧ Zc cls d oe ∧ oe.data = .fields vs) := hok a _ e
  exact x.1
section
variable {X : Cx} {pins : List (Addr × Obj)} {σ : L2.St} {H : Hp} {s : Shared}
/-- an untracked object that is none of the frame's, none of the pins', and new since the entry, may be tracked -/
theorem track {a : Addr} {o : HO} (I : Inv X pins σ H s) (na : H a = none) (fresh : ∀ b u, X.s_0.heap.get? b = some u → X.H_0 b = none → b ∉ X.ex → b ≠ a) (nL : X.env.locals ≠ a)
    (nC : ∀ x c, X.env.cells.lookup x = some c → c ≠ a) (nP : ∀ p ∈ X.pn ++ pins, p.1 ≠ a) (new : ObjOk X.prog X.w (upd H a o) s.heap a o) : Inv X pins σ (upd H a o) s := by
  refine ⟨I.ok, I.os, I.bare, ⟨I.base.keep, I.base.slot, fun b u e n hx => ?_, I.base.there, fun b xs e => ?_, fun b u v e => ?_, fun b ps e => ?_⟩, I.loc, I.cell, ?_, fun x c e => ?_, fun p hp => ?_, fun b u e => ?_, I.len⟩
  · rw [upd_ne (fresh b u e n hx)]
    exact I.base.free b u e n hx
  · have q := I.base.tups b xs e
    rw [upd_ne (ne_of_none q na)]
    exact q
  · have q := I.base.frzs b u v e
    rw [upd_ne (ne_of_none q na)]
    exact q
  · obtain ⟨m, q⟩ := I.base.tbls b ps e
    exact ⟨m, by rw [upd_ne (ne_of_none q na)]; exact q⟩
  · rw [upd_ne nL]
    exact I.free
  · rw [upd_ne (nC x c e)]
    exact I.freeC x c e
  · obtain ⟨e, n, r⟩ := I.pin p hp
    exact ⟨e, by rw [upd_ne (nP p hp)]; exact n, r⟩
  · by_cases hb : b = a
    · subst hb
      rw [upd_same] at e
      cases e
      exact new
    · rw [upd_ne hb] at e
      exact (I.hok b u e).stay (fun _ _ _ q => q) (fun c q => by rw [upd_ne (ne_of_none q na)]; exact q) fun c xs q => by rw [upd_ne (ne_of_none q na)]; exact q
end
/-- as wAs, the exception kept: behind the suite it is tracked -/
def wKeep (K : PySem.W.Frag) (c : Value) (i : Nat) (ts : Addr → Value → Option Addr → TS) (D : Ends) : WX := fun cls d σ H =>
  PySem.W.exmOne K cls c = some true ∧ ∀ a, H a = none → ts a cls d { nx := fun σ' H' => H' a = none ∧ D.nx (σ'.set i none) (upd H' a (ExK cls d a)), rt := fun _ _ => False, bk := fun _ _ => False, ct := fun _ _ => False } (σ.set i (some (.ref a))) H
section
variable {X : Cx} {x n : Str} {c : Value} {i : Nat} {body suite : List Stmt} {b0 : Stmt} {np pos pos' : Pos} {tb : WX → TS} {ts : Addr → Value → Option Addr → TS}
theorem ps_try_keep (hs : X.stack = X.env :: X.outer) (hf : X.env.frame = some X.env.locals) (hN : X.N.Nodup) (hi : X.N[i]? = some n) (hln : X.env.kindOf n = some .local) (hc : Names X x c)
    (hb : ∀ (W : WX) (pn : List (Addr × Obj)) (xe : Value → Shared → Prop), Takes (X.tr pn xe) W → PassesOwn (model X.prog X.w) X.A X.env xe → PSs (X.tr pn xe) body (tb W))
    (hsu : ∀ (a : Addr) (oe : Obj) (cls : Value) (d : Option Addr) (pn : List (Addr × Obj)), Zc cls d oe → (∃ vs, oe.data = .fields vs) → PSs (X.suite a ((a, oe) :: pn)) (b0 :: suite) (ts a cls d)) :
    PS X (.Try body [.ExceptHandler (some (.Name x np)) (some n) (b0 :: suite) pos'] [] [] pos) (fun D σ H => tb (wKeep X.K c i ts D) D σ H) := by
  refine ⟨fun pins s σ H D I h => ?_⟩
  have ok := I.ok
  have frm : X.A.frames = some (X.env :: X.outer) := hs ▸ ok.frames
  refine wpAny_Try_except ?_
  refine wpAny_mono ((hb (wKeep X.K c i ts D) (X.pn ++ pins) (fun e s1 => wpAny (model X.prog X.w) X.A (noteFrame e X.env) (fun _ s2 => wpAny (model X.prog X.w) X.A (setFlight e none) (fun _ s3 =>
    wpAny (model X.prog X.w) X.A (handleBy e X.env [.ExceptHandler (some (.Name x np)) (some n) (b0 :: suite) pos']) (SP X pins D) X.xe s3) X.xe s2) X.xe s1) ?caught PassesOwn.looking).run [] s σ H D (I.toTry _) h) ?through (fun e s1 he => he)
  case through =>
    intro f s1 hsp
    cases f with
    | next =>
      obtain ⟨σ', H', J', q⟩ := hsp
      exact wpAny_execs_nil ⟨σ', H', J'.ofTry ok, q⟩
    | brk =>
      obtain ⟨σ', H', J', q⟩ := hsp
      exact ⟨σ', H', J'.ofTry ok, q⟩
    | cont =>
      obtain ⟨σ', H', J', q⟩ := hsp
      exact ⟨σ', H', J'.ofTry ok, q⟩
    | ret u =>
      obtain ⟨v, σ', H', J', r, q⟩ := hsp
      exact ⟨v, σ', H', J'.ofTry ok, r, q⟩
  case caught =>
    intro u s' xx
    obtain ⟨a, B, sI, pins', σ', H', cls, d, rfl, J', nb, up, sky, na, os, ag, hb1, hyes⟩ := xx
    have J : Inv X pins σ' H' sI := J'.ofTry ok
    have skyE : Sky B (X.env :: X.outer) a (Zc cls d) X.env.locals s'.heap := by
      rw [← hs]
      exact sky
    show wpAny (model X.prog X.w) X.A (noteFrame (.ref a) X.env) _ _ _
    refine Sky.land Zc.steady frm hf skyE fun h3 fl3 up3 => ?_
    have J3 : Inv X pins σ' H' { s' with heap := h3 } := J.landed nb fl3.1 (up.trans up3) os ag
    obtain ⟨oe3, vs3, he3, hz3, hd3⟩ := fl3.there
    have nB : B.get? a = none := fl3.2.1
    have nfr : a ∉ frs (X.env :: X.outer) := fun hm => by
      obtain ⟨_, o', e', hnf⟩ := fl3.2.2.1.mem hm
      have e2 : h3.get? a = some o' := e'
      rw [he3] at e2
      cases e2
      exact hnf _ hd3
    have nL : a ≠ X.env.locals := fun z => nfr (List.mem_filterMap.mpr ⟨X.env, List.mem_cons_self, by rw [hf, z]⟩)
    have nF : a ∉ X.fs := fun hm => by
      obtain ⟨e, he, q⟩ := List.mem_filterMap.mp hm
      exact nfr (List.mem_filterMap.mpr ⟨e, List.mem_cons_of_mem _ he, q⟩)
    have offB : ∀ b o, sI.heap.get? b = some o → b ≠ X.env.locals → b ∉ X.fs → b ≠ a := fun b o e h1 h2 z => by
      have k : b ∉ frs X.stack := fun hm => by
        rcases List.mem_cons.mp (J.stkSub b hm) with q | q
        · exact h1 q
        · exact h2 q
      have y := nb b o e k
      rw [z, nB] at y
      cases y
    have S3 := J3.suite he3 hd3 na nL nF
    refine wpAny_handleBy_cons (codeAny_handlers_test ?_) (by intro q; cases q)
    have LT : PySem.W.Looks (model X.prog X.w) h3 (typeOf (.ref a)) cls := fun A Q E s k q => wpAny_typeOf_ref (k _ _ he3) (by rw [hz3.1]; exact q)
    have LM := PySem.W.exm_one (M := model X.prog X.w) (J3.kIn) LT hb1
    have test : ∀ {Q : Value → Shared → Prop} {E : Value → Shared → Prop}, Q c { s' with heap := h3 } → wpAny (model X.prog X.w) (X.A.mark (some (.ref a))) (eval (.Name x np) X.env) Q E { s' with heap := h3 } := fun {Q E} q => by
      obtain ⟨hg, hdbg, hm | ⟨hm, hv, hnn⟩⟩ := hc
      · exact ld_glob (X := X.suite a ((a, oe3) :: (X.pn ++ pins))) S3 hg hm q hdbg
      · exact ld_blt (X := X.suite a ((a, oe3) :: (X.pn ++ pins))) S3 hg hm hv q hnn hdbg
    refine test (LM.here ?_)
    refine codeAny_handlers_suite_as ?_
    refine HandSPX.lands_againZ fl3 fun h4 fl4 up4 => ?_
    have J4 : Inv X pins σ' H' { s' with heap := h4 } := J.landed nb fl4.1 ((up.trans up3).trans up4) os ag
    obtain ⟨oe4, vs4, he4, hz4, hd4⟩ := fl4.there
    have S4 := J4.suite he4 hd4 na nL nF
    refine store_ok (X := X.suite a ((a, oe4) :: (X.pn ++ pins))) (v := .ref a) S4 hN hi (.inl hln) rfl (fun s5 S5 => ?_) (.inr hln)
    refine wpAny_mono ((hsu a oe4 cls d (X.pn ++ pins) hz4 ⟨_, hd4⟩).run [] s5 _ H' _ S5 (hyes a na)) (fun f s6 hsp => ?_) (fun _ _ z => False.elim z)
    cases f with
    | next =>
      obtain ⟨σ6, H6, S6, n6, q6⟩ := hsp
      have S6x : Inv X pins σ6 H6 s6 := S6.unsuite ok
      obtain ⟨e6, _, _, _, d6⟩ := S6.pin (a, oe4) (List.mem_append_left _ List.mem_cons_self)
      have T6 : Inv X pins σ6 (upd H6 a (ExK cls d a)) s6 := by
        refine track S6x n6 (fun b o e n hx => ?_) nL.symm (fun y k e z => ?_) (fun p hp => ?_) (exk_ok e6 hz4 hd4)
        · by_cases hb : b ∈ X.fs
          · intro z
            exact nF (z ▸ hb)
          · exact offB b o (J.base.keep b o e n hb hx) (Nat.ne_of_lt (Nat.lt_of_lt_of_le (Heap.lt_size e) ok.above)) hb
        · obtain ⟨v, o, ho, hd⟩ := S6.cell y k e
          rw [z] at ho
          have e7 : s6.heap.get? a = some oe4 := e6
          rw [e7] at ho
          cases ho
          rw [hd4] at hd
          cases hd
        · obtain ⟨e, _, k1, k2, _⟩ := J.pin p hp
          exact offB p.1 p.2 e k1 k2
      exact gone_ok T6 hN hi hln fun s7 J7 => ⟨_, _, J7, q6⟩
    | brk =>
      obtain ⟨σ6, H6, S6, q6⟩ := hsp
      exact q6.elim
    | cont =>
      obtain ⟨σ6, H6, S6, q6⟩ := hsp
      exact q6.elim
    | ret u =>
      obtain ⟨v6, σ6, H6, S6, r6, q6⟩ := hsp
      exact q6.elim
end
/-! ### isinstance of a kept error, its field -/
section
variable {X : Cx} {K : PySem.W.Frag}
theorem br_inst {h : Heap} {a d : Addr} {oe : Obj} {vs : Array Value} {mA : Str → Option Value} (B : BRF K) (e : h.get? a = some oe) (z : Zc (.ref (aBR K)) (some d) oe) (q : oe.data = .fields vs) (hn : h.Ns1 d mA) :
    ∃ od, PySem.W.InstAt h a oe (aBR K) (some od) ∧ ∀ name, PySem.W.lookIn name od = some (mA name) := by
  obtain ⟨od, ho, hl⟩ := lookIn_ns hn
  exact ⟨od, ⟨e, z.1, by unfold PySem.W.notCls; rw [q] <;> rfl, by rw [z.2]; exact ho⟩, hl⟩
theorem br_kit {a : Addr} {oe od : Obj} (B : BRF K) : PySem.W.KitX K (.ref a) (.ref (aBR K)) (fun h => PySem.W.InstAt h a oe (aBR K) (some od)) := by
  refine PySem.W.kitx_exc ?_ B.ga B.gg B.oex.exC B.cl B.sp B.tk B.mo
  obtain ⟨cd, hc, _⟩ := PySem.W.any_some B.hd
  rw [hc] <;> rfl
/-- isinstance(e, c), e a kept BadRow -/
def rIsK (K : PySem.W.Frag) : List V → Hp → VK → Prop := fun xs H Q => ∃ (a d : Addr) (fs : List (Str × V)) (c : V) (u : Value) (b : Bool), xs = [.ref a, c] ∧ H a = some (ExK (.ref (aBR K)) (some d) a) ∧ H d = some (.xd fs) ∧ ClsV c u ∧ PySem.W.kitOne K (.ref (aBR K)) u = some b ∧ Q (.bl b) H
theorem call_isK (B : BRF X.K) : CallR X (.builtin "isinstance") (rIsK X.K) := by
  intro pins s σ H xs us Q I r h
  obtain ⟨a, d, fs, c, u, b, rfl, ea, ed, k, e, q⟩ := h
  obtain ⟨u1, u2, rfl, r1, r2⟩ := vals2 r
  cases (show u1 = Value.ref a from r1)
  have e2 := k.eq r2
  subst e2
  obtain ⟨oe, vs, ho, hz, hd⟩ := exk_at I.hok ea
  obtain ⟨mA, hns, hr⟩ := (show ObjOk X.prog X.w H s.heap d (.xd fs) from I.hok d _ ed)
  obtain ⟨od, J, _⟩ := br_inst B ho hz hd hns
  exact PySem.W.kia_one (br_kit B) I.kIn J e (fun z => nomatch z) fun tk => ⟨.bl b, H, I.tok tk, rfl, q⟩
/-- isinstance(e, (c, ..)) -/
def rIsKT (K : PySem.W.Frag) : List V → Hp → VK → Prop := fun xs H Q => ∃ (a d tp : Addr) (fs : List (Str × V)) (cs : List V) (us : List Value) (b : Bool), xs = [.ref a, .ref tp] ∧ H a = some (ExK (.ref (aBR K)) (some d) a) ∧ H d = some (.xd fs) ∧ H tp = some (.tup cs) ∧ Paired ClsV cs us ∧
  PySem.W.kitAny K (.ref (aBR K)) us = some b ∧ Q (.bl b) H
theorem call_isKT (B : BRF X.K) : CallR X (.builtin "isinstance") (rIsKT X.K) := by
  intro pins s σ H xs us Q I r h
  obtain ⟨a, d, tp, fs, cs, ws, b, rfl, ea, ed, hT, k, e, q⟩ := h
  obtain ⟨u1, u2, rfl, r1, r2⟩ := vals2 r
  cases (show u1 = Value.ref a from r1)
  cases (show u2 = Value.ref tp from r2)
  obtain ⟨oe, vs, ho, hz, hd⟩ := exk_at I.hok ea
  obtain ⟨mA, hns, hr⟩ := (show ObjOk X.prog X.w H s.heap d (.xd fs) from I.hok d _ ed)
  obtain ⟨od, J, _⟩ := br_inst B ho hz hd hns
  obtain ⟨_, its, rv, o, h1, h2, n, h3⟩ := (show ObjOk X.prog X.w H s.heap tp (.tup cs) from I.hok tp _ hT)
  have e3 := ClsV.all k rv
  subst e3
  obtain ⟨oc, odd, dt, sl⟩ := o
  simp only at h2 h3
  subst h2 h3
  exact PySem.W.kia_tup (br_kit B) I.kIn J h1 e (fun z => nomatch z) fun tk => ⟨.bl b, H, I.tok tk, rfl, q⟩
/-- e.row -/
def tRow (K : PySem.W.Frag) (te : TE) : TE := fun σ H Q => te σ H fun x H1 => ∃ (a d : Addr) (v : V), x = .ref a ∧ H1 a = some (ExK (.ref (aBR K)) (some d) a) ∧ H1 d = some (.xd [("row", v)]) ∧ Q v H1
theorem pe_row {e : Expr} {te : TE} {pos : Pos} (B : BRF X.K) (he : PE X e te) (hb : attributeBase e "row" X.env (eval e X.env) = eval e X.env := by rfl) : PE X (.Attribute e "row" pos) (tRow X.K te) := by
  refine ⟨fun pins s σ H Q I h => ?_⟩
  refine attr_of hb (thn (he.run pins s σ H _ I h) fun u s1 hh => ?_)
  obtain ⟨x, H1, I1, rx, a, d, v, ex, ea, ed, q⟩ := hh
  subst ex
  obtain rfl : u = Value.ref a := rx
  obtain ⟨oe, vs, ho, hz, hd⟩ := exk_at I1.hok ea
  obtain ⟨mA, hns, hr⟩ := (show ObjOk X.prog X.w H1 s1.heap d (.xd [("row", v)]) from I1.hok d _ ed)
  obtain ⟨od, J, hl⟩ := br_inst B ho hz hd hns
  have l : List.lookup ("row" : Str) [(("row" : Str), v)] = some v := by simp [List.lookup]
  obtain ⟨u, hu, ru⟩ := RelO.some_of (v := v) (o := mA "row") (by rw [← l]; exact hr "row")
  exact HandSPX.exc_get I1.kIn J B.ga B.gg B.oex.exC (PySem.W.findObj_own B.hd B.noRow rfl (by rw [hl, hu])) (handed_of ru) ⟨v, H1, I1.tok _, ru, q⟩
/-! ### StageError.__init__(self, ..): ValueError's -/
theorem pe_sinit {e : Expr} {es : List Expr} {ta : TA} {p1 p2 pos : Pos} {pl : Sem Bool} (B : BRF X.K) (hg : Gl X "StageError") (hm : X.mg "StageError" = some (.ref (aSE X.K))) (ha : PA X (e :: es) ta)
    (hc : eval (.Call (.Attribute (.Name "StageError" p1) "__init__" p2) (e :: es) [] pos) X.env = (do
      let ov ← eval (.Name "StageError" p1) X.env
      standAt p2.atName
      let (f, first) ← holding [ov] (getMethod ov "__init__" pl)
      callWith pos f first (backTo pos (starEach (e :: es) X.env)) (backToKw pos (keywordEach [] X.env))) := by rfl)
    (he : starEach (e :: es) X.env = (false, eval e X.env) :: starEach es X.env := by rfl) (hpl : (backTo pos (starEach es X.env)).any (·.1) = false := by rfl) :
    PE X (.Call (.Attribute (.Name "StageError" p1) "__init__" p2) (e :: es) [] pos) (tVeI X.K ta) := by
  refine ⟨fun pins s σ H Q I h => ?_⟩
  refine PySem.W.methodCall_KW (ld_glob I hg hm ?_) hc
  refine PySem.W.method_cls I.kIn B.seG ?_
  refine PySem.W.cls_value I.kIn B.seR B.seV (by decide +kernel) ?_
  show wpAny _ _ (callWith pos (Value.builtin "ValueError.__init__") [] (backTo pos (starEach (e :: es) X.env)) []) _ _ _
  refine PyProof.Rows.callWith_method1 (thn (ha.run pos pins _ σ H _ (I.tok _) h) fun us s1 ⟨vs, H1, I1, r1, a, C, ws, ev, hl, T, ea, q⟩ => ?_) he hpl
  subst ev
  cases r1 with
  | @cons _ u0 _ ur ra rw' =>
    obtain rfl : u0 = Value.ref a := ra
    have hlen : ur.length ≤ sizeLine := by
      rw [← Paired.length rw', sizeLine_eq]
      omega
    exact oinit_ok T I1 ea hlen fun s' J => ⟨.non, H1, J, rfl, q⟩
end
end Fw

/-! ==== FwSet ==== -/
set_option Elab.async false
set_option linter.all false
set_option maxRecDepth 100000
set_option maxHeartbeats 4000000
/-! len(set(xs)), xs a list of unlike texts (of any number below 4,000): the library's way for ints, with texts as keys -/
namespace FwS
open PySem PySem.Spec PyProof.Rows
/-- what the set holds behind i items -/
abbrev met (xs : List Str) (i : Nat) : Str → Bool := fun k => (xs.take i).any (· == k)
theorem met_succ {xs : List Str} {i : Nat} (hi : i < xs.length) (k : Str) : met xs (i + 1) k = (met xs i k || decide (k = xs.getD i Str.empty)) := by
  have e : xs.getD i Str.empty = xs[i] := by rw [List.getD_eq_getElem?_getD, List.getElem?_eq_getElem hi] <;> rfl
  show (xs.take (i + 1)).any (· == k) = _
  rw [List.take_add_one, List.getElem?_eq_getElem hi, List.any_append, e]
  show ((xs.take i).any (· == k) || ([xs[i]] : List Str).any (· == k)) = _
  congr 1
  by_cases z : k = xs[i]
  · subst z
    simp
  · have z2 : (xs[i] == k) = false := by simpa [beq_iff_eq] using (fun q : xs[i] = k => z q.symm)
    simp [z2, z]
theorem met_new {xs : List Str} (nd : xs.Nodup) {i : Nat} (hi : i < xs.length) : met xs i (xs.getD i Str.empty) = false := by
  have e : xs.getD i Str.empty = xs[i] := by rw [List.getD_eq_getElem?_getD, List.getElem?_eq_getElem hi] <;> rfl
  rw [e]
  refine Bool.eq_false_iff.mpr fun q => ?_
  obtain ⟨y, hy, ey⟩ := List.any_eq_true.mp q
  have ez : y = xs[i] := eq_of_beq ey
  subst ez
  obtain ⟨j, hj, ej⟩ := List.getElem_of_mem hy
  have hji : j < i := by
    rw [List.length_take] at hj
    omega
  rw [List.getElem_take] at ej
  exact absurd ej (List.pairwise_iff_getElem.mp nd j i (Nat.lt_trans hji hi) hi hji)
section
variable {prog : Program} {w : World} {A : Around} {R : Result → Shared → Prop} {I : Addr} {fp wr : List Addr} {G : Array GenState → Array GenState → Prop} {n : Nat} {P : Nat → Value → Prop} {St : Nat → Shared → Prop}
theorem fill (W : WalksS prog w A.in1 I fp wr G n P St) (S : Addr) (hSf : S ∉ fp) (xs : List Str) (hsz : xs.length = n) (nd : xs.Nodup) (hn : n < 4000)
    (hval : ∀ i v, P i v → ∃ t, v = .str (xs.getD i Str.empty) t) : ∀ (k i : Nat) (s : Shared), n - i = k → i ≤ n → St i s → s.heap.SetOf (PySem.strKind prog w) S (met xs i) i →
      (∀ s', Moved (S :: wr) G s s' → s'.heap.SetOf (PySem.strKind prog w) S (met xs n) n → R (.ok (.ret .none)) s') → codeAny (model prog w) A (.builtin "set.update.loop" ⟨[.ref S, .ref I], []⟩) R s := by
  have hSw : S ∉ wr := fun h => hSf (W.sub _ h)
  have hsub : ∀ b ∈ wr, b ∈ S :: wr := fun b hb => List.mem_cons_of_mem _ hb
  intro k
  induction k with
  | zero =>
    intro i s hk hi hst hS hR
    obtain rfl : i = n := by omega
    refine codeAny_builtin PyProof.Rows.F.entry_set_update_loop ?_
    rw [Around.under_plainId PyProof.Rows.F.plain_set_update_loop _]
    show wpAny _ A.in1 (pyNext (.ref I) >>= _) _ _ s
    refine wpAny_bind (W.done s _ _ hst fun s' hm => ?_)
    show wpAny _ A.in1 (ret Value.none) _ _ s'
    refine wpAny_pure (hR s' (hm.mono hsub) ?_)
    obtain ⟨o, es, ep, t, ho, more⟩ := hS
    exact ⟨o, es, ep, t, hm.heap S _ hSw ho, more⟩
  | succ k ih =>
    intro i s hk hi hst hS hR
    have hlt : i < n := by omega
    have hlx : i < xs.length := by omega
    refine codeAny_builtin PyProof.Rows.F.entry_set_update_loop ?_
    rw [Around.under_plainId PyProof.Rows.F.plain_set_update_loop _]
    show wpAny _ A.in1 (pyNext (.ref I) >>= _) _ _ s
    refine wpAny_bind (W.item i s _ _ hlt hst fun v s' hP hst' hm => ?_)
    obtain ⟨t, rfl⟩ := hval i v hP
    have hS' : s'.heap.SetOf (PySem.strKind prog w) S (met xs i) i := by
      obtain ⟨o, es, ep, tb, ho, more⟩ := hS
      exact ⟨o, es, ep, tb, hm.heap S _ hSw ho, more⟩
    show wpAny _ A.in1 (holding [Value.str (xs.getD i Str.empty) t] (setAdd S (.str (xs.getD i Str.empty) t)) >>= _) _ _ s'
    refine wpAny_bind (wpAny_holding ?_)
    unfold setAdd
    refine wpAny_holding ?_
    refine wpAny_bind ((PySem.strKind prog w).pyHash (k := xs.getD i Str.empty) (strKind_is _ _ _ _) ?_)
    refine wpAny_setAddHashed_of (knd := PySem.strKind prog w) (s := { s' with toks := s'.toks + 1 }) (strKind_is _ _ _ _) rfl hS' (by unfold scanBound; omega) fun h' hsb hS2 => ?_
    have hSi : h'.SetOf (PySem.strKind prog w) S (met xs (i + 1)) (i + 1) :=
      SetOf_congr hS2 (fun k' => (met_succ hlx k').symm) (by rw [met_new nd hlx] <;> rfl)
    refine wpAny_pure ⟨plainId_quiet PyProof.Rows.F.plain_set_update_loop _, ih (i + 1) _ (by omega) hlt (W.frame _ s' _ _ hst' (Nat.le_succ _) fun b hb o e => ?_) hSi fun s'' hm'' hS'' => ?_⟩
    · rw [hsb.2 b (fun z : b = S => hSf (z ▸ hb))]
      exact e
    · refine hR s'' (Moved.trans W.gtrans ((hm.mono hsub).then_heap (Nat.le_succ _) fun b o hb e => ?_) hm'') hS''
      rw [hsb.2 b (fun z : b = S => hb (z ▸ List.mem_cons_self))]
      exact e
end
section
variable {prog : Program} {w : World} {A : Around} {E : Value → Shared → Prop} {s : Shared}
abbrev bare (led : Bool) : Obj := { cls := .type "set", dict := none, data := .set #[] 0 (.fresh 0 0 led) }
theorem set_texts {l : Addr} {items : Array Value} {xs : List Str} {Q : Value → Shared → Prop} (hh : A.handled = none) (hl : s.heap.IsList l items) (hi : PyProof.Rows.StrsAre items.toList xs) (nd : xs.Nodup) (hn : xs.length < 4000)
    (h : ∀ (h' : Heap) (tk : Nat), h'.SetOf (PySem.strKind prog w) s.heap.objs.size (met xs items.size) items.size → (∀ b o, b < s.heap.objs.size → s.heap.get? b = some o → h'.get? b = some o) → Q (.ref s.heap.objs.size) { s with heap := h', toks := tk }) :
    wpAny (model prog w) A (call (.type "set") [.ref l]) Q E s := by
  obtain ⟨c, tl, hmro⟩ := PySem.F.called_set.mro
  have hmade := PySem.F.called_set.made
  have hsub := PySem.F.called_set.sub
  refine wpAny_call (codeAny_of_tree ?_)
  show wpAny _ _ (callAny (.type "set") _) _ _ _
  refine wpAny_pure ⟨Code.quiet_builtin _ (by decide +kernel), codeAny_builtin PySem.F.entry_type_call ?_⟩
  rw [Around.under_plain (weight_type_call_type "set" [.ref l] []) rfl]
  have h1 := PySem.F.called_set.notType
  have h2 := PySem.F.called_set.canCreate
  have hct := PySem.F.typeCall_set_1 (.ref l)
  repeat (any_goals (first | assumption | wp_step))
  refine codeAny_mono (code_set_new_1 (.ref l) (E := E) (Q₁ := fun obj s1 => ∃ led : Bool, obj = .ref s.heap.objs.size ∧ s1 = { s with heap := s.heap.push (bare led) }) fun led => ⟨led, rfl, rfl⟩) fun r s1 hr => ?_
  cases r with
  | error e => exact hr
  | ok fl =>
    cases fl with
    | ret obj =>
      obtain ⟨led, rfl, rfl⟩ := hr
      have hS : (s.heap.push (bare led)).get? s.heap.objs.size = some (bare led) := Heap.get?_push_size _ rfl
      have hT : Shared.TypeIs { s with heap := s.heap.push (bare led) } (.ref s.heap.objs.size) "set" := ⟨_, hS, rfl⟩
      have hli := PySem.F.called_set.init.lookup
      have hbi := PySem.F.called_set.init.bind (.ref s.heap.objs.size)
      repeat (any_goals (first | assumption | wp_step))
      refine codeAny_mono (codeAny_call_builtin (R := wants (fun r s2 => r = .none ∧ ∃ h' tk, s2 = { s with heap := h', toks := tk } ∧ h'.SetOf (PySem.strKind prog w) s.heap.objs.size (met xs items.size) items.size ∧
          (∀ b o, b < s.heap.objs.size → s.heap.get? b = some o → h'.get? b = some o)) E) PySem.F.called_set.init.plain PySem.F.entry_set_init (check_set_init_1 hT ?_)) fun r2 s2 hr2 => ?_
      · obtain ⟨ol, hol, hcl, nl, hdl⟩ := hl
        obtain ⟨ocls, odict, odata, oslots⟩ := ol
        simp only at hcl hdl
        subst hcl
        subst hdl
        have hol' : (s.heap.push (bare led)).get? l = some { cls := .type "list", dict := odict, data := .seq items nl, slots := oslots } := Heap.get?_push_of_some _ hol
        have hsls := PySem.F.sub_list_set
        have hslf := PySem.F.sub_list_frozenset
        have hne : (Value.type "list" == Value.type "dict") = false := by decide
        have hl1 : (s.heap.push (bare led)).IsList l items := ⟨_, hol', rfl, nl, rfl⟩
        unfold Builtin.«set.__init__» noKeywords Builtin.Frozenset.updateFrom
        generalize hPI : pyIter = PI
        wp_walk
        subst hPI
        refine wpAny_pyIter_list hl1 ?_
        refine wpAny_bind (wpAny_runValue ?_)
        have hlS : l < s.heap.objs.size := Heap.lt_size hol
        have hh3 : A.in1.in1.in1.handled = none := by simp [hh]
        have hneI : l ≠ (s.heap.push (bare led)).objs.size := by
          rw [Heap.size_push]
          exact Nat.ne_of_lt (Nat.lt_succ_of_lt hlS)
        have hSf : s.heap.objs.size ∉ [(s.heap.push (bare led)).objs.size, l] := by
          rw [Heap.size_push]
          simp only [List.mem_cons, List.mem_singleton, List.not_mem_nil, or_false, not_or]
          exact ⟨Nat.ne_of_lt (Nat.lt_succ_self _), Nat.ne_of_gt hlS⟩
        have hsz : xs.length = items.size := by rw [← StrsAre.len_eq hi, Array.length_toList]
        have hval : ∀ (i : Nat) (v : Value), items[i]? = some v → ∃ t, v = .str (xs.getD i Str.empty) t := fun i v hv => SS.strs_at hi i v (by rw [Array.getElem?_toList]; exact hv)
        refine fill ((Walks.list hh3 _ l hneI items).toS) s.heap.objs.size hSf xs hsz nd (by rw [← hsz]; exact hn) hval (items.size - 0) 0 _ (by omega) (Nat.zero_le _) ⟨⟨_, Heap.get?_push_size _ rfl, rfl, rfl⟩, (hl1.push _)⟩ ?first ?last
        case first =>
          have hget : ((s.heap.push (bare led)).push { cls := .type "list_iterator", data := .fields #[.ref l, .int 0 0] }).get? s.heap.objs.size = some (bare led) := Heap.get?_push_of_some _ hS
          exact PyProof.Rows.SetOf_congr ((PyProof.Rows.setObjOf_fresh (knd := PySem.strKind prog w) led).setOf hget (by unfold scanBound; omega)) (fun _ => rfl) rfl
        case last =>
          intro s' hm hS'
          obtain ⟨h', g', d', tk', os'⟩ := s'
          have eg : g' = s.gens := hm.gens
          have ed : d' = s.drawn := hm.drawn
          have eo : os' = s.os := hm.os
          subst eg ed eo
          show wpAny _ _ _ _ _ _
          refine wpAny_pure ?_
          show wpAny _ _ (ret Value.none) _ _ _
          refine wpAny_pure ⟨rfl, h', tk', rfl, hS', fun b o hb e => ?_⟩
          have hb2 : b ≠ (s.heap.push (bare led)).objs.size := by
            rw [Heap.size_push]
            exact Nat.ne_of_lt (Nat.lt_succ_of_lt hb)
          refine hm.heap b o ?_ (Heap.get?_push_of_some _ (Heap.get?_push_of_some _ e))
          simp only [List.mem_cons, List.mem_singleton, List.not_mem_nil, or_false, not_or]
          exact ⟨Nat.ne_of_lt hb, hb2⟩
      · cases r2 with
        | error e => exact hr2
        | ok fl2 =>
          cases fl2 with
          | ret r =>
            obtain ⟨rfl, h', tk, rfl, hS', hk'⟩ := hr2
            repeat (any_goals (first | assumption | wp_step))
            exact h _ _ hS' hk'
          | _ => exact hr2.elim
    | _ => exact hr.elim
end
end FwS
namespace Fw
open PySem PySem.Spec PyProof.Rows L2
/-- len(set(xs)), xs a list of unlike texts -/
def tLenSetS (K : PySem.W.Frag) (ta : TE) : TE := fun σ H Q => ta σ H fun x H1 => ∃ (l : Addr) (xs : List Str), x = .ref l ∧ SqL K H1 l (xs.map V.str) ∧ xs.Nodup ∧ xs.length < 4000 ∧ Q (.int (xs.length : Nat)) H1
theorem pe_lenSetS {X : Cx} {a : Expr} {ta : TE} {p p2 q pos : Pos} (hc : X.calm = true) (hg : Gl X "len") (hm : X.mg "len" = none) (hg2 : Gl X "set") (hm2 : X.mg "set" = none) (ha : PE X a ta)
    (na : starEach [a] X.env = (false, eval a X.env) :: starEach [] X.env := by rfl) : PE X (.Call (.Name "len" p) [.Call (.Name "set" p2) [a] [] q] [] pos) (tLenSetS X.K ta) := by
  refine ⟨fun pins s σ H Q I h => ?_⟩
  refine Call_ (ld_blt I hg hm boot_len ?_)
  refine PyProof.Rows.callWith_builtin1 (PyProof.Rows.args_cons ?_ rfl) rfl rfl
  refine Call_ (ld_blt I hg2 hm2 boot_set ?_)
  refine PyProof.Rows.callWith_type1 (PyProof.Rows.args_cons (thn (ha.run pins s σ H _ I h) fun v s1 ⟨x, H1, I1, r1, q1⟩ => PyProof.Rows.args_nil ?_) na) na rfl
  obtain ⟨l, xs, rfl, hq, hnd, hl, q1⟩ := q1
  cases r1
  obtain ⟨its, r, pl, hz⟩ := I1.list hq
  have hlen : its.toArray.size = xs.length := by rw [List.size_toArray, ← r.length, List.length_map]
  refine FwS.set_texts (I1.ok.hd hc) pl.isList (by simpa using strsAre_of r) hnd hl fun h' tk hS hk => ?_
  refine PyProof.Rows.args_nil ?_
  rw [hlen] at hS
  obtain ⟨o, es, ep, t, ho, hex, hd, _, _, _, hf, hn⟩ := hS
  have I2 : Inv X pins σ H1 { s1 with heap := h', toks := tk } := I1.kept fun b o e => hk b o (Heap.lt_size e) e
  exact call_len_set ho hex hd hf (by rw [hn] <;> omega) ⟨.int xs.length, H1, I2.tok _, ⟨_, by rw [hn]⟩, q1⟩
end Fw

/-! ==== FwB ==== -/
set_option Elab.async false
set_option linter.all false
set_option maxRecDepth 100000
set_option maxHeartbeats 4000000
/-! what all walks share -/
namespace Fw
open PySem PySem.Spec PyProof.Rows L2
/-! ### the built-ins by their names -/
theorem bv_len : bootBuiltins "len" = some (.builtin "len") := by decide +kernel
theorem bv_isinstance : bootBuiltins "isinstance" = some (.builtin "isinstance") := by decide +kernel
theorem bv_all : bootBuiltins "all" = some (.builtin "all") := by decide +kernel
theorem bv_sorted : bootBuiltins "sorted" = some (.builtin "sorted") := by decide +kernel
theorem bv_int : bootBuiltins "int" = some (.type "int") := by decide +kernel
theorem bv_bool : bootBuiltins "bool" = some (.type "bool") := by decide +kernel
theorem bv_str : bootBuiltins "str" = some (.type "str") := by decide +kernel
theorem bv_tuple : bootBuiltins "tuple" = some (.type "tuple") := by decide +kernel
theorem bv_list : bootBuiltins "list" = some (.type "list") := by decide +kernel
theorem bv_ValueError : bootBuiltins "ValueError" = some (.type "ValueError") := by decide +kernel
/-! ### a def kept -/
section
variable {P : Program} {w : World} {K : PySem.W.Frag} {mg : Str → Option Value} {base : Heap}
/-- the def that stands at p keeps sp -/
def OkD (P : Program) (w : World) (K : PySem.W.Frag) (mg : Str → Option Value) (base : Heap) (CX : CXT) (k : Nat) (p : Str × Option Str) (ps : List Str) (sp : Sp) : Prop :=
  ∃ fd, FnOk P w K mg base CX k (He.fAd K p) fd ps sp ∧ Binds K fd ps [] ∧ PySem.W.keepIn K (.ref (He.fAd K p)) = true
theorem OkD.mk {x qual : Str} {st : Stmt} {p : Str × Option Str} {N ps : List Str} {k : Nat} {sp : Sp} (F : FunI K x qual st (He.fAd K p)) (S : FnScope N ps (defScope st))
    (hb : ∀ (kV doc pm : Value) (an : Option Addr) (cdv ct : Value) (us : List Value), us.length = ps.length → bindArgs (PySem.W.fnOf x qual (defArgs st) (defBody st) (defScope st) .none kV doc pm an cdv ct) ⟨us, []⟩ = pure (ps.zip us))
    (len : ∀ vs H Q E, sp vs H Q E → vs.length = ps.length)
    (hbody : ∀ (cdv : Value) (A : Around) (outer : List Env) (s : Shared) (H : Hp) (vs : List V) (Q : VK) (E : XK), Room k (A.deeper (envOfC qual (defScope st) s.heap.objs.size (He.fAd K p) cdv)) → sp vs H Q E →
      ∃ t, PSs (cxOf CX0 P w K mg base N qual (defScope st) (He.fAd K p) cdv A outer s H E).nox (defBody st) t ∧ t { nx := fun _ H' => Q .non H', rt := Q } (start N vs) H) : OkD P w K mg base CX0 (k + 1) p ps sp := by
  obtain ⟨fd, F⟩ := F
  exact ⟨fd, F.ok S len hbody, F.binds hb, F.kp⟩
/-- .. one that may raise -/
theorem OkD.mkX {x qual : Str} {st : Stmt} {p : Str × Option Str} {N ps : List Str} {k : Nat} {sp : Sp} (F : FunI K x qual st (He.fAd K p)) (S : FnScope N ps (defScope st))
    (hb : ∀ (kV doc pm : Value) (an : Option Addr) (cdv ct : Value) (us : List Value), us.length = ps.length → bindArgs (PySem.W.fnOf x qual (defArgs st) (defBody st) (defScope st) .none kV doc pm an cdv ct) ⟨us, []⟩ = pure (ps.zip us))
    (len : ∀ vs H Q E, sp vs H Q E → vs.length = ps.length)
    (hbody : ∀ (cdv : Value) (A : Around) (outer : List Env) (s : Shared) (H : Hp) (vs : List V) (Q : VK) (E : XK), Room k (A.deeper (envOfC qual (defScope st) s.heap.objs.size (He.fAd K p) cdv)) → sp vs H Q E →
      ∃ t, PSs (cxOf (L2.CX P w) P w K mg base N qual (defScope st) (He.fAd K p) cdv A outer s H E) (defBody st) t ∧ t { nx := fun _ H' => Q .non H', rt := Q } (start N vs) H) : OkD P w K mg base (L2.CX P w) (k + 1) p ps sp := by
  obtain ⟨fd, F⟩ := F
  exact ⟨fd, F.okX S len hbody, F.binds hb, F.kp⟩
end
/-! ### a list of written texts -/
def litOf : Expr → V
  | .Constant (.str x) _ _ => .str x
  | _ => .non
def isLit : Expr → Bool
  | .Constant (.str _) _ _ => true
  | _ => false
def tLits (es : List Expr) : TA := fun _ H Q => Q (es.map litOf) H
theorem pa_lits {X : Cx} : ∀ {es : List Expr}, es.all isLit = true → PA X es (tLits es)
  | [], _ => pa_nil
  | e :: es, h => by
    obtain ⟨h1, h2⟩ := Bool.and_eq_true_iff.mp (show (isLit e && es.all isLit) = true from h)
    have ih := pa_lits (X := X) h2
    cases e with
    | Constant c j pos =>
      cases c with
      | str x => exact pa_cons (X := X) (e := .Constant (.str x) j pos) (te := tC (.str x)) (t := tLits es) pe_str ih
      | _ => cases h1
    | _ => cases h1
/-! ### heaps -/
theorem same_new {H : Hp} {p : Addr} {o : HO} (h : H p = none) : Same H (upd H p o) := fun b x e => by
  rw [upd_ne (ne_of_none e h)]
  exact e
/-- all but d as it was -/
def But (d : Addr) (H H' : Hp) : Prop := ∀ b o, H b = some o → b ≠ d → H' b = some o
theorem Same.but {H H' : Hp} {d : Addr} (h : Same H H') : But d H H' := fun b o e _ => h b o e
theorem But.trans {d : Addr} {H H1 H2 : Hp} (a : But d H H1) (b : But d H1 H2) : But d H H2 := fun c o e n => b c o (a c o e n) n
theorem But.refl (d : Addr) (H : Hp) : But d H H := fun _ _ e _ => e
/-- a new object changed: for what stood ahead nothing -/
theorem But.same {H H1 H2 : Hp} {d : Addr} (a : Same H H1) (b : But d H1 H2) (h : H d = none) : Same H H2 := fun c o e => b c o (a c o e) (ne_of_none e h)
theorem But.seq {K : PySem.W.Frag} {H H' : Hp} {a d : Addr} {xs : List V} (e : But d H H') (h : SqL K H a xs) (n : a ≠ d) : SqL K H' a xs := by
  rcases h with (h | ⟨o, h⟩) | h
  · exact .inl (.inl (e _ _ h n))
  · exact .inl (.inr ⟨o, e _ _ h n⟩)
  · exact .inr h
theorem But.upd {H : Hp} {d : Addr} {o : HO} : But d H (upd H d o) := fun b x e n => by
  rw [upd_ne n]
  exact e
theorem Same.back {H H1 : Hp} {p : Addr} (s : Same H H1) (h : H1 p = none) : H p = none := s.free h
theorem But.back {d p : Addr} {H H1 : Hp} (s : But d H H1) (h : H1 p = none) (n : p ≠ d) : H p = none := by
  cases q : H p with
  | none => rfl
  | some o =>
    rw [s p o q n] at h
    cases h
/-! ### comprehensions -/
section
variable {J : It} {n : Nat} {G : Hp → Prop} {Y : Nat → Hp → V → Hp → Prop} {g : TG} {tt : TT} {te : TE} {vs : List Nat} {σ : L2.St} {H1 : Hp} {D : Addr} {Qd : Hp → Prop}
/-- what a comprehension's walk asks, whatever it walks -/
abbrev LcGoal (J : It) (g : TG) (tt : TT) (te : TE) (vs : List Nat) (σ : L2.St) (H1 : Hp) (D : Addr) (Qd : Hp → Prop) : Prop :=
  ∃ W : Nat → Nat → Hp → Prop, (∃ m, W 0 m (upd H1 D (.lst []))) ∧ ∀ i m H, W i m H →
    (J.stop i H ∧ Qd H) ∨ (J.go i H ∧ ∃ Nx : Hp → Prop, (∀ H', Nx H' → ∃ m', m' < m ∧ W (i + 1) m' H') ∧ ∀ x H', J.yld i H x H' → g x (wipe σ vs) H' fun σ2 H2 => wipe σ2 vs = wipe σ vs ∧ tt σ2 H2 fun b H3 =>
      if b = true then te σ2 H3 fun y H4 => ∃ acc, H4 D = some (.lst acc) ∧ acc.length < sizeLine ∧ Nx (upd H4 D (.lst (acc ++ [y]))) else Nx H3)
theorem range_fm {α : Type} (f : Nat → Option α) (i : Nat) : (List.range (i + 1)).filterMap f = (List.range i).filterMap f ++ (match f i with | some y => [y] | none => []) := by
  rw [List.range_succ, List.filterMap_append]
  congr 1
  cases e : f i with
  | none => simp [e]
  | some y => simp [e]
theorem fm_len {α : Type} (f : Nat → Option α) (i : Nat) : ((List.range i).filterMap f).length ≤ i := by
  have h := List.length_filterMap_le f (List.range i)
  rw [List.length_range] at h
  exact h
/-- turn i gives f i (none: left out); all that stood ahead stands -/
theorem lc_f (w : Walk J n G Y) (f : Nat → Option V) (hn : n < sizeLine) (hD : H1 D = none) (hG : ∀ H, Same H1 H → G H)
    (hs : ∀ i x H H' (N : V → Hp → Prop) (N0 : Hp → Prop), i < n → Same H1 H → Y i H x H' → (∀ y H4, f i = some y → Same H H4 → N y H4) → (∀ H4, f i = none → Same H H4 → N0 H4) →
      g x (wipe σ vs) H' fun σ2 H2 => wipe σ2 vs = wipe σ vs ∧ tt σ2 H2 fun b H3 => if b = true then te σ2 H3 N else N0 H3)
    (hd : ∀ H, Same H1 H → H D = some (.lst ((List.range n).filterMap f)) → Qd H) : LcGoal J g tt te vs σ H1 D Qd := by
  refine lc_it w (fun i H => Same H1 H ∧ H D = some (.lst ((List.range i).filterMap f))) ⟨same_new hD, upd_same⟩ (fun i H _ h => hG H h.1) (fun i x H H' hi h y => ?_) (fun H h => hd H h.1 h.2)
  obtain ⟨s1, eD⟩ := h
  have off : ∀ {H4 : Hp} {o : HO}, Same H H4 → Same H1 (upd H4 D o) := fun {H4 o} s b u e => by
    rw [upd_ne (ne_of_none e hD)]
    exact s b u (s1 b u e)
  refine hs i x H H' _ _ hi s1 y (fun z H4 e s => ?_) (fun H4 e s => ?_)
  · refine ⟨_, s D _ eD, Nat.lt_of_le_of_lt (Nat.le_trans (fm_len f i) (Nat.le_of_lt hi)) hn, off s, ?_⟩
    rw [upd_same, range_fm, e]
  · refine ⟨s1.trans s, ?_⟩
    rw [s D _ eD, range_fm, e, List.append_nil]
/-- turn i gives a value that R tells; the rest by an invariant over the heap -/
theorem lc_rel (w : Walk J n G Y) (I : Hp → Prop) (R : Nat → V → Prop) (hn : n < sizeLine) (h0 : I (upd H1 D (.lst []))) (hu : ∀ H zs, I H → I (upd H D (.lst zs))) (hG : ∀ H, I H → G H)
    (hs : ∀ i x H H' (N : V → Hp → Prop), i < n → I H → Y i H x H' → (∀ y H4, R i y → I H4 → H4 D = H D → N y H4) →
      g x (wipe σ vs) H' fun σ2 H2 => wipe σ2 vs = wipe σ vs ∧ tt σ2 H2 fun b H3 => b = true ∧ te σ2 H3 N)
    (hd : ∀ H ys, I H → H D = some (.lst ys) → ys.length = n → (∀ i y, ys[i]? = some y → R i y) → Qd H) (hm : ∀ σ2 H2 (A : Hp → Prop) (B : Hp → Prop), (tt σ2 H2 fun b H3 => b = true ∧ A H3) → tt σ2 H2 fun b H3 => if b = true then A H3 else B H3)
    (hg : ∀ x σ H (A B : L2.St → Hp → Prop), (∀ σ2 H2, A σ2 H2 → B σ2 H2) → g x σ H A → g x σ H B) : LcGoal J g tt te vs σ H1 D Qd := by
  refine lc_it w (fun i H => I H ∧ ∃ ys : List V, H D = some (.lst ys) ∧ ys.length = i ∧ ∀ j y, ys[j]? = some y → R j y) ⟨h0, [], upd_same, rfl, fun j y e => by simp at e⟩ (fun i H _ h => hG H h.1) (fun i x H H' hi h y => ?_) (fun H h => ?_)
  · obtain ⟨hI, ys, eD, hl, hR⟩ := h
    refine hg _ _ _ _ _ (fun σ2 H2 z => ⟨z.1, hm σ2 H2 _ _ z.2⟩) (hs i x H H' _ hi hI y fun z H4 r i4 e4 => ?_)
    refine ⟨ys, by rw [e4]; exact eD, by omega, hu _ _ i4, ys ++ [z], upd_same, by rw [List.length_append, hl] <;> rfl, fun j q e => ?_⟩
    by_cases hj : j < ys.length
    · rw [List.getElem?_append_left hj] at e
      exact hR j q e
    · rw [List.getElem?_append_right (by omega)] at e
      have hj2 : j - ys.length = 0 := by
        cases hz : j - ys.length with
        | zero => rfl
        | succ m =>
          rw [hz] at e
          simp at e
      rw [hj2] at e
      have eq : z = q := Option.some.inj e
      have ej : j = i := by omega
      rw [← eq, ej]
      exact r
  · obtain ⟨hI, ys, eD, hl, hR⟩ := h
    exact hd H ys hI eD hl hR
end
theorem yes_if (σ2 : L2.St) (H2 : Hp) (A B : Hp → Prop) (h : tYes σ2 H2 fun b H3 => b = true ∧ A H3) : tYes σ2 H2 fun b H3 => if b = true then A H3 else B H3 := by
  show if true = true then A H2 else B H2
  rw [if_pos rfl]
  exact h.2
theorem yes_of {σ2 : L2.St} {H2 : Hp} {A B : Hp → Prop} (h : A H2) : tYes σ2 H2 fun b H3 => if b = true then A H3 else B H3 := by
  show if true = true then A H2 else B H2
  rw [if_pos rfl]
  exact h
theorem gname_mono {i : Nat} (x : V) (σ : L2.St) (H : Hp) (A B : L2.St → Hp → Prop) (h : ∀ σ2 H2, A σ2 H2 → B σ2 H2) (q : gName i x σ H A) : gName i x σ H B := h _ _ q
theorem range_get {α β : Type} (l : List α) (f : α → Option β) : (List.range l.length).filterMap (fun i => l[i]?.bind f) = l.filterMap f := by
  induction l with
  | nil => rfl
  | cons a r ih =>
    rw [List.length_cons, List.range_succ_eq_map, List.filterMap_cons, List.filterMap_map]
    show (match (some a).bind f with | none => List.filterMap (fun i => (a :: r)[i + 1]?.bind f) (List.range r.length) | some b => b :: List.filterMap (fun i => (a :: r)[i + 1]?.bind f) (List.range r.length)) = (a :: r).filterMap f
    have e : List.filterMap (fun i => (a :: r)[i + 1]?.bind f) (List.range r.length) = r.filterMap f := by
      rw [← ih]
      rfl
    rw [e, List.filterMap_cons]
    rfl
theorem range_map {α β : Type} (l : List α) (f : α → β) : (List.range l.length).filterMap (fun i => l[i]?.map f) = l.map f := by
  have e : (fun i : Nat => l[i]?.map f) = fun i => l[i]?.bind fun a => some (f a) := by
    funext i
    cases l[i]? <;> rfl
  rw [e, range_get, List.filterMap_eq_map']
end Fw

/-! ==== FwM ==== -/
set_option Elab.async false
set_option linter.all false
set_option maxRecDepth 100000
set_option maxHeartbeats 4000000
/-! the mathematics: names, numbers, rows, cues; no program here -/
namespace Fw
open PySem PySem.Spec PyProof.Rows L2 TL
/-! ### texts -/
theorem len_tl' (x : Str) : (tl x).length = x.length := (len_tl x).symm
theorem str_ne {x y : Str} : x ≠ y ↔ tl x ≠ tl y := ⟨fun h e => h (ext_tl e), fun h e => h (by rw [e])⟩
/-! ### names -/
def isLow (c : Nat) : Bool := decide (97 ≤ c) && decide (c ≤ 122)
def isName (x : Str) : Bool := (decide (1 ≤ x.length) && decide (x.length ≤ 8)) && (tl x).all isLow
theorem letters_tl : tl (Str.ofString "abcdefghijklmnopqrstuvwxyz") = [97,98,99,100,101,102,103,104,105,106,107,108,109,110,111,112,113,114,115,116,117,118,119,120,121,122] := by decide +kernel
theorem mem_low (c : Nat) : decide (c ∈ tl (Str.ofString "abcdefghijklmnopqrstuvwxyz")) = isLow c := by
  rw [letters_tl]
  unfold isLow
  rw [← Bool.decide_and]
  refine decide_eq_decide.mpr ?_
  simp only [List.mem_cons, List.not_mem_nil, or_false]
  omega
def isDig (c : Nat) : Bool := decide (48 ≤ c) && decide (c ≤ 57)
theorem figures_tl : tl (Str.ofString "0123456789") = [48,49,50,51,52,53,54,55,56,57] := by decide +kernel
theorem mem_dig (c : Nat) : decide (c ∈ tl (Str.ofString "0123456789")) = isDig c := by
  rw [figures_tl]
  unfold isDig
  rw [← Bool.decide_and]
  refine decide_eq_decide.mpr ?_
  simp only [List.mem_cons, List.not_mem_nil, or_false]
  omega
theorem dig_all {l : List Nat} : l.all isDig = true ↔ NumText.AllDigits l := by
  unfold NumText.AllDigits isDig
  simp [List.all_eq_true]
/-! ### numbers -/
/-- the figures of a word: without the sign -/
def figL (l : List Nat) : List Nat := match l with
  | 45 :: r => r
  | l => l
theorem figL_neg (r : List Nat) : figL (45 :: r) = r := rfl
theorem figL_pos {l : List Nat} (h : ∀ r, l ≠ 45 :: r) : figL l = l := by
  unfold figL
  split
  · rename_i r
    exact absurd rfl (h r)
  · rfl
/-- a word that writes a number -/
def okNum (x : Str) : Bool := ((decide (1 ≤ (figL (tl x)).length) && decide ((figL (tl x)).length ≤ 10)) && (figL (tl x)).all isDig) && (decide ((figL (tl x)).head? ≠ some 48) || decide (tl x = [48]))
def numOf (x : Str) : Option Int := if okNum x = true then intText? x else none
theorem canon {cs : List Nat} (h : NumText.AllDigits cs) (h1 : cs ≠ []) (h0 : cs.head? ≠ some 48 ∨ cs = [48]) : numL (NumText.digitsVal cs) = cs := by
  have hz : ∃ n, cs.length = n + 1 := by
    cases cs with
    | nil => exact absurd rfl h1
    | cons a r => exact ⟨r.length, rfl⟩
  obtain ⟨n, hn⟩ := hz
  have lead : n = 0 ∨ ∃ c r, cs = c :: r ∧ 49 ≤ c := by
    rcases h0 with h0 | h0
    · right
      cases cs with
      | nil => exact absurd rfl h1
      | cons a r =>
        have ha := h.head
        have hb : a ≠ 48 := fun e => h0 (by rw [e] <;> rfl)
        exact ⟨a, r, rfl, by omega⟩
    · left
      rw [h0] at hn
      have : 1 = n + 1 := hn
      omega
  unfold numL
  rw [NumText.toDigits_digitsVal n cs hn h lead, List.map_map]
  have e : ∀ c ∈ cs, (Char.toNat ∘ Char.ofNat) c = c := fun c hc => by
    have r := h c hc
    show (Char.ofNat c).toNat = c
    have v : c.isValidChar := Or.inl (by omega)
    unfold Char.ofNat
    rw [dif_pos v]
    rfl
  rw [List.map_congr_left e]
  exact List.map_id' cs
theorem neg_tl (n : Nat) : tl (Str.ofString (toString (-(((n + 1 : Nat)) : Int)))) = 45 :: numL (n + 1) := by
  have e : (-(((n + 1 : Nat)) : Int)) = Int.negSucc n := rfl
  rw [e]
  have t : (toString (Int.negSucc n) : String) = "-" ++ toString (n + 1) := rfl
  rw [t, tl_ofString, String.toList_append, List.map_append]
  have d : (("-" : String).toList.map Char.toNat) = [45] := by decide
  rw [d]
  have q := tl_num (n + 1)
  have t2 : (toString (((n + 1 : Nat) : Int)) : String) = toString (n + 1) := rfl
  rw [t2, tl_ofString] at q
  rw [q]
  rfl
/-- a number's word writes it back -/
theorem num_back {x : Str} (h : okNum x = true) : ∃ n : Int, numOf x = some n ∧ intText? x = some n ∧ Str.ofString (toString n) = x ∧ x.length ≤ 11 := by
  have h' := h
  unfold okNum at h
  simp only [Bool.and_eq_true, Bool.or_eq_true, decide_eq_true_eq] at h
  obtain ⟨⟨⟨h1, h2⟩, h3⟩, h4⟩ := h
  have hd := dig_all.mp h3
  have fin : ∀ {n : Int}, intText? x = some n → Str.ofString (toString n) = x → x.length ≤ 11 → ∃ n : Int, numOf x = some n ∧ intText? x = some n ∧ Str.ofString (toString n) = x ∧ x.length ≤ 11 := fun {n} e s l => ⟨n, by unfold numOf; rw [if_pos h']; exact e, e, s, l⟩
  by_cases hn : ∃ r, tl x = 45 :: r
  · obtain ⟨r, hr⟩ := hn
    rw [hr, figL_neg] at h1 h2 hd h4
    have hne : r ≠ [] := fun e => by
      rw [e] at h1
      exact absurd h1 (by decide)
    have lx : x.length = r.length + 1 := by rw [len_tl, hr] <;> rfl
    have hz : r.head? ≠ some 48 := by
      rcases h4 with h4 | h4
      · exact h4
      · cases h4
    have c := canon hd hne (.inl hz)
    have pos : NumText.digitsVal r ≠ 0 := fun e => by
      rw [e] at c
      have z : numL 0 = [48] := numL_lt (by decide)
      rw [z] at c
      rw [← c] at hz
      exact hz rfl
    obtain ⟨m, hm⟩ := Nat.exists_eq_succ_of_ne_zero pos
    refine fin (intText_neg (cs := r) hr hd hne (by omega)) ?_ (by omega)
    refine ext_tl ?_
    rw [hm, hr]
    rw [hm] at c
    have e := neg_tl m
    rw [show m.succ = m + 1 from rfl] at c ⊢
    rw [e, c]
  · have hp : figL (tl x) = tl x := figL_pos fun r e => hn ⟨r, e⟩
    rw [hp] at h1 h2 hd h4
    have hne : tl x ≠ [] := fun e => by
      rw [e] at h1
      exact absurd h1 (by decide)
    have lx : x.length = (tl x).length := len_tl x
    have c := canon hd hne h4
    refine fin (intText_digits (x := x) hd hne (by omega)) ?_ (by omega)
    refine ext_tl ?_
    rw [tl_num]
    exact c
theorem num_none {x : Str} (h : okNum x = false) : numOf x = none := by
  unfold numOf
  rw [h, if_neg Bool.false_ne_true]
/-! ### slices, beginnings -/
theorem cut_from {α : Type} (l : List α) (k : Nat) : (l.drop (min k l.length)).take (l.length - min k l.length) = l.drop k := by
  by_cases h : k ≤ l.length
  · rw [Nat.min_eq_left h]
    exact List.take_of_length_le (by rw [List.length_drop]; exact Nat.le_refl _)
  · rw [Nat.min_eq_right (by omega), List.drop_length, List.drop_of_length_le (by omega)]
    simp
theorem cut_to {α : Type} (l : List α) (k : Nat) : (l.drop 0).take (min k l.length - 0) = l.take k := by
  rw [List.drop_zero, Nat.sub_zero]
  by_cases h : k ≤ l.length
  · rw [Nat.min_eq_left h]
  · rw [Nat.min_eq_right (by omega), List.take_length, List.take_of_length_le (by omega)]
theorem cut_mid {α : Type} (l : List α) (a b : Nat) (hab : a ≤ b) : (l.drop (min a l.length)).take (min b l.length - min a l.length) = (l.drop a).take (b - a) := by
  by_cases h : a ≤ l.length
  · rw [Nat.min_eq_left h]
    by_cases h2 : b ≤ l.length
    · rw [Nat.min_eq_left h2]
    · rw [Nat.min_eq_right (by omega), List.take_of_length_le (by rw [List.length_drop]; omega), List.take_of_length_le (by rw [List.length_drop]; omega)]
  · rw [Nat.min_eq_right (show l.length ≤ a by omega), List.drop_length, List.drop_of_length_le (by omega)]
    simp
theorem cutV_from (xs : List V) (k : Nat) : cutV xs (some (k : Int)) none = xs.drop k := by
  unfold cutV
  rw [HT.sIx_nat, HT.sIx_none]
  exact cut_from xs k
theorem cutV_to (xs : List V) (k : Nat) : cutV xs none (some (k : Int)) = xs.take k := by
  unfold cutV
  rw [HT.sIx_nat, HT.sIx_none]
  exact cut_to xs k
theorem cutV_mid (xs : List V) (a b : Nat) (h : a ≤ b) : cutV xs (some (a : Int)) (some (b : Int)) = (xs.drop a).take (b - a) := by
  unfold cutV
  rw [HT.sIx_nat, HT.sIx_nat]
  exact cut_mid xs a b h
theorem cutS_from (z : Str) (k : Nat) : tl (cutS z (some (k : Int)) none) = (tl z).drop k := by
  unfold cutS
  rw [HT.sIx_nat, HT.sIx_none, len_tl]
  show ((tl z).drop (min k (tl z).length)).take ((tl z).length - min k (tl z).length) = (tl z).drop k
  exact cut_from (tl z) k
theorem cutS_to (z : Str) (k : Nat) : tl (cutS z none (some (k : Int))) = (tl z).take k := by
  unfold cutS
  rw [HT.sIx_nat, HT.sIx_none, len_tl]
  show ((tl z).drop 0).take (min k (tl z).length - 0) = (tl z).take k
  exact cut_to (tl z) k
theorem dash_cps : (Str.ofString "-").cps = #[45] := by decide +kernel
theorem starts_dash (x : Str) : (Txt.startswith x (Str.ofString "-") = true ∧ ∃ r, tl x = 45 :: r) ∨ (Txt.startswith x (Str.ofString "-") = false ∧ ∀ r, tl x ≠ 45 :: r) := by
  obtain ⟨⟨l⟩⟩ := x
  have e : Txt.startswith ⟨⟨l⟩⟩ (Str.ofString "-") = (decide (0 + 1 ≤ l.length) && ((⟨l⟩ : Array Nat).extract 0 (0 + 1) == #[45])) := by
    unfold Txt.startswith Builtin.Str.subAt
    show (decide (0 + (Str.ofString "-").cps.size ≤ l.length) && ((⟨l⟩ : Array Nat).extract 0 (0 + (Str.ofString "-").cps.size) == (Str.ofString "-").cps)) = _
    rw [dash_cps]
    rfl
  rw [e]
  cases l with
  | nil => exact .inr ⟨by simp, fun r z => by cases z⟩
  | cons a r =>
    by_cases h : a = 45
    · subst h
      exact .inl ⟨by simp, r, rfl⟩
    · refine .inr ⟨by simp [h], fun r2 z => ?_⟩
      have z2 : a :: r = 45 :: r2 := z
      injection z2 with z3 _
      exact h z3
theorem strV_eq (a b : Str) : decide (V.str a = V.str b) = decide (tl a = tl b) := by
  refine decide_eq_decide.mpr ⟨fun h => ?_, fun h => ?_⟩
  · injection h with h
    rw [h]
  · rw [ext_tl h]
theorem zero_tl : tl (Str.ofString "0") = [48] := by decide +kernel
/-- None or a number, as a value -/
def optV : Option Int → V
  | some i => .int i
  | none => .non
/-- a whole number within -/
def whole (o : Option Int) (a b : Int) : Bool := match o with
  | some i => decide (a ≤ i) && decide (i ≤ b)
  | none => false
end Fw

/-! ==== FwW1 ==== -/
set_option Elab.async false
set_option linter.all false
set_option maxRecDepth 100000
set_option maxHeartbeats 4000000
/-! walks: names, numbers, moves, followers -/
namespace Fw
open PySem PySem.Spec PyProof.Rows L2 TL
section
variable {P : Program} {w : World} {K : PySem.W.Frag} {mg : Str → Option Value} {base : Heap}
def spIsWhole : Sp := fun vs H Q _ => ∃ (o : Option Int) (a b : Int), vs = [optV o, .int a, .int b] ∧ Q (.bl (whole o a b)) H
abbrev nn_is_whole : List Str := ["thing", "least", "most"]
theorem sc_is_whole : FnScope nn_is_whole ["thing", "least", "most"] (defScope s_is_whole) := ⟨rfl, rfl, rfl, by decide +kernel, rfl, by decide +kernel, by decide +kernel⟩
theorem ok_is_whole (T : Tx K mg) : OkD P w K mg base CX0 1 ("is_whole", none) ["thing", "least", "most"] spIsWhole := by
  refine OkD.mk T.f_is_whole sc_is_whole (fun _ _ _ _ _ _ us hl => match us, hl with | [_, _, _], _ => rfl) (fun vs H Q E h => ?_) (fun cdv A outer s H vs Q E hr h => ?_)
  · obtain ⟨o, a, b, rfl, _⟩ := h
    rfl
  · obtain ⟨o, a, b, rfl, k⟩ := h
    refine ⟨_, (pss_one (ps_ret (pe_and (pe_callB call_isi (by rfl) T.b_isinstance bv_isinstance (pa_cons (pv 0) (pa_cons (pe_bltn (v := .ty "int") (by rfl) T.b_int bv_int rfl) pa_nil))) (pe_and (pe_not (pe_callB call_isi (by rfl) T.b_isinstance bv_isinstance (pa_cons (pv 0) (pa_cons (pe_bltn (v := .ty "bool") (by rfl) T.b_bool bv_bool rfl) pa_nil)))) (pe_one (pe_chain op_le op_le (pv 1) (pv 0) (pv 2))))))), ?_⟩
    cases o with
    | none =>
      refine ⟨_, rfl, _, _, _, _, false, rfl, .ty _, .base .non, kit_ty (by decide +kernel), false, rfl, ?_⟩
      exact iteF k
    | some i =>
      refine ⟨_, rfl, _, _, _, _, true, rfl, .ty _, .base (.int i), kit_ty (by decide +kernel), true, rfl, ?_⟩
      refine iteT ?_
      refine ⟨_, rfl, _, _, _, _, false, rfl, .ty _, .base (.int i), kit_ty (by decide +kernel), false, rfl, true, rfl, iteT ?_⟩
      refine ⟨_, rfl, _, rfl, _, _, rfl, rfl, _, rfl, ?_⟩
      refine ite2 (fun e => ?_) (fun e => ?_)
      · refine ⟨_, rfl, _, _, rfl, rfl, ?_⟩
        have z : whole (some i) a b = decide (i ≤ b) := by
          show (decide (a ≤ i) && decide (i ≤ b)) = decide (i ≤ b)
          rw [e, Bool.true_and]
        rw [z] at k
        exact k
      · have z : whole (some i) a b = false := by
          show (decide (a ≤ i) && decide (i ≤ b)) = false
          rw [Bool.eq_false_iff.mpr e, Bool.false_and]
        rw [z] at k
        exact k
theorem sign_at {x : Str} {i : Nat} {c : Nat} (h : x.cps[i]? = some c) : (tl x)[i]? = some c := by
  rw [Array.getElem?_toList]
  exact h
theorem bl_list (l : List Nat) (f : Nat → Bool) : (l.map f).all id = l.all f := by
  rw [List.all_map]
  rfl
/-- [c in SIGNS for c in x], all of it -/
theorem all_signs {x : Str} {f : Nat → Bool} : (List.range x.cps.size).filterMap (fun i => (tl x)[i]?.map fun c => V.bl (f c)) = ((tl x).map f).map V.bl := by
  have e : x.cps.size = (tl x).length := by simp [tl]
  rw [e, range_map, List.map_map]
  rfl
theorem isName_eq (x : Str) : isName x = (decide ((1 : Int) ≤ (x.length : Int)) && (decide ((x.length : Int) ≤ 8) && (tl x).all isLow)) := by
  unfold isName
  rw [Bool.and_assoc]
  congr 1
  · exact decide_eq_decide.mpr (by omega)
  · congr 1
    exact decide_eq_decide.mpr (by omega)
theorem not_t {b : Bool} (h : (!b) = true) : b = false := by simpa using h
theorem not_f {b : Bool} (h : ¬ (!b) = true) : b = true := by simpa using h
theorem ne_t {b : Bool} (h : ¬ b = true) : b = false := by simpa using h
def spIsName : Sp := fun vs H Q _ => ∃ x : Str, vs = [.str x] ∧ x.length ≤ 1000000 ∧ ∀ H', Same H H' → Q (.bl (isName x)) H'
theorem sz {n : Nat} (h : n ≤ 1000000) : n ≤ sizeLine := Nat.le_trans h (by decide)
theorem sz_lt {n : Nat} (h : n ≤ 1000000) : n < sizeLine := Nat.lt_of_le_of_lt h (by decide)
abbrev nn_is_name : List Str := ["thing", "sign"]
theorem sc_is_name : FnScope nn_is_name ["thing"] (defScope s_is_name) := ⟨rfl, rfl, rfl, by decide +kernel, rfl, by decide +kernel, by decide +kernel⟩
theorem ok_is_name (T : Tx K mg) : OkD P w K mg base CX0 1 ("is_name", none) ["thing"] spIsName := by
  refine OkD.mk T.f_is_name sc_is_name (fun _ _ _ _ _ _ us hl => match us, hl with | [_], _ => rfl) (fun vs H Q E h => ?_) (fun cdv A outer s H vs Q E hr h => ?_)
  · obtain ⟨x, rfl, _⟩ := h
    rfl
  · obtain ⟨x, rfl, hl, k⟩ := h
    refine ⟨_, (pss_cons (ps_if (PW.pt (pw_or (pt_not (pt_val (pe_callB call_isi (by rfl) T.b_isinstance bv_isinstance (pa_cons (pv 0) (pa_cons (pe_bltn (v := .ty "str") (by rfl) T.b_str bv_str rfl) pa_nil))))) (pw_or1 (pt_not (pt_chain op_le op_le pe_int (pe_callB call_len_str (by rfl) T.b_len bv_len (pa_cons (pv 0) pa_nil)) (pe_glob (v := .int 8) (by rfl) (T.c_MOST_LETTERS).choose_spec ⟨_, rfl⟩))))))
        (pss_one (ps_ret pe_bl))
        pss_nil)
      (pss_one (ps_ret (pe_callB (cr_all rfl) (by rfl) T.b_all bv_all (pa_cons (pe_lc (own := [("sign", 1)]) rfl sc_is_name.nd (pi_str (pv 0)) (blkOk_by (own := [("sign", 1)]) (N := nn_is_name) (sc := defScope s_is_name) (by decide +kernel)) (fun _ _ _ _ _ => (pg_name (i := 1) sc_is_name.nd rfl (Or.inl rfl))) (fun _ _ _ _ _ => pts_nil) (fun _ _ _ _ _ => (pe_cmpR op_in_sign (pv 1) (pe_glob (v := .str "abcdefghijklmnopqrstuvwxyz") (by rfl) (T.c_LETTERS).choose_spec ⟨_, rfl⟩) (by first | exact nomark _ | rfl)))) pa_nil))))), ?_⟩
    refine ⟨_, rfl, _, _, _, _, true, rfl, .ty _, .base (.str x), kit_ty (by decide +kernel), true, rfl, iteF ?_⟩
    have out : ∀ {c : Bool}, isName x = c → ∀ H', Same H H' → Q (.bl c) H' := fun {c} e H' s => by
      rw [← e]
      exact k H' s
    refine ⟨_, rfl, _, rfl, sz hl, _, _, rfl, rfl, _, rfl, ?_⟩
    refine ite2 (fun e1 => ?_) (fun e1 => ?_)
    · refine ⟨_, _, rfl, rfl, _, rfl, ?_⟩
      refine ite2 (fun e2 => ?_) (fun e2 => ?_)
      · refine out ?_ H (Same.refl H)
        rw [isName_eq, not_t e2, Bool.false_and, Bool.and_false]
      · refine ⟨_, rfl, x, rfl, fun D hD => ?_⟩
        refine lc_f walk_str (fun i => (tl x)[i]?.map fun c => V.bl (isLow c)) (sz_lt ?_) hD (fun _ _ => trivial) (fun i v H1 H2 N N0 hi s1 hy kN _ => ?_) (fun H1 s1 eD => ?_)
        · exact hl
        · obtain ⟨rfl, c, hc, rfl⟩ := hy
          refine ⟨rfl, yes_of ?_⟩
          refine ⟨_, rfl, c, _, rfl, rfl, ?_⟩
          refine kN _ _ ?_ (Same.refl _)
          rw [sign_at hc]
          show some (V.bl (isLow c)) = some (V.bl (decide (c ∈ tl (Str.ofString "abcdefghijklmnopqrstuvwxyz"))))
          rw [mem_low]
        · rw [all_signs] at eD
          refine ⟨_, _, rfl, SqL.of eD, ?_⟩
          rw [bl_list]
          refine out ?_ H1 s1
          rw [isName_eq, e1, not_f e2, Bool.true_and, Bool.true_and]
    · refine ⟨false, rfl, ?_⟩
      refine out ?_ H (Same.refl H)
      rw [isName_eq, ne_t e1, Bool.false_and]
def spNumberIn : Sp := fun vs H Q _ => ∃ x : Str, vs = [.str x] ∧ x.length ≤ 1000000 ∧ ∀ H', Same H H' → Q (optV (numOf x)) H'
abbrev nn_number_in : List Str := ["word", "figures", "sign"]
theorem sc_number_in : FnScope nn_number_in ["word"] (defScope s_number_in) := ⟨rfl, rfl, rfl, by decide +kernel, rfl, by decide +kernel, by decide +kernel⟩
theorem ok_number_in (T : Tx K mg) : OkD P w K mg base CX0 1 ("number_in", none) ["word"] spNumberIn := by
  refine OkD.mk T.f_number_in sc_number_in (fun _ _ _ _ _ _ us hl => match us, hl with | [_], _ => rfl) (fun vs H Q E h => ?_) (fun cdv A outer s H vs Q E hr h => ?_)
  · obtain ⟨x, rfl, _⟩ := h
    rfl
  · obtain ⟨x, rfl, hl, k⟩ := h
    refine ⟨_, (pss_cons (ps_set (i := 1) sc_number_in.nd rfl (Or.inl rfl) (pe_ifExp (pt_val (pe_m1 PySem.F.slot_str_startswith PySem.F.type_str_startswith mt_startswith (pv 0) pe_str)) (pe_slice sl_str (pv 0) (po_some pe_int) po_none) (pv 0)))
      (pss_cons (ps_if (PW.pt (pw_or (pt_not (pt_chain op_le op_le pe_int (pe_callB call_len_str (by rfl) T.b_len bv_len (pa_cons (pv 1) pa_nil)) (pe_glob (v := .int 10) (by rfl) (T.c_MOST_FIGURES).choose_spec ⟨_, rfl⟩))) (pw_or1 (pt_not (pt_val (pe_callB (cr_all rfl) (by rfl) T.b_all bv_all (pa_cons (pe_lc (own := [("sign", 2)]) rfl sc_number_in.nd (pi_str (pv 1)) (blkOk_by (own := [("sign", 2)]) (N := nn_number_in) (sc := defScope s_number_in) (by decide +kernel)) (fun _ _ _ _ _ => (pg_name (i := 2) sc_number_in.nd rfl (Or.inl rfl))) (fun _ _ _ _ _ => pts_nil) (fun _ _ _ _ _ => (pe_cmpR op_in_sign (pv 2) (pe_glob (v := .str "0123456789") (by rfl) (T.c_FIGURES).choose_spec ⟨_, rfl⟩) (by first | exact nomark _ | rfl)))) pa_nil)))))))
        (pss_one (ps_ret pe_non))
        pss_nil)
      (pss_cons (ps_if (PW.pt (pw_and (pt_cmpR op_eq (pe_ix ix_str (pv 1) pe_int (fun _ _ => rfl)) pe_str (by first | exact nomark _ | rfl)) (pw_and1 (pt_cmpR op_ne (pv 0) pe_str (by first | exact nomark _ | rfl)))))
        (pss_one (ps_ret pe_non))
        pss_nil)
      (pss_one (ps_ret (pe_callTy call_int_str (by rfl) T.b_int bv_int (pa_cons (pv 0) pa_nil))))))), ?_⟩
    refine ⟨_, rfl, ⟨_, rfl⟩, _, _, rfl, rfl, _, rfl, ?_⟩
    have fig : ∀ F : Str, tl F = figL (tl x) → F.length ≤ 1000000 → okNum x = ((decide ((1 : Int) ≤ (F.length : Int)) && (decide ((F.length : Int) ≤ 10) && (tl F).all isDig)) && (decide ((tl F).head? ≠ some 48) || decide (tl x = [48]))) := fun F e _ => by
      unfold okNum
      rw [← e, Bool.and_assoc (decide (1 ≤ (tl F).length))]
      congr 1
      congr 1
      · exact decide_eq_decide.mpr (by rw [len_tl]; omega)
      · congr 1
        exact decide_eq_decide.mpr (by rw [len_tl]; omega)
    have out : numOf x = none → ∀ H', Same H H' → Q .non H' := fun e H' s => by
      have z := k H' s
      rw [e] at z
      exact z
    have sig : ∀ {F : Str} {c : Nat}, tl F = [c] → F = ⟨#[c]⟩ := fun {F c} e => ext_tl e
    refine ite2 (fun e1 => ?dash) (fun e1 => ?plain)
    case' dash =>
      refine ⟨_, rfl, _, rfl, x, rfl, sz hl, ?_⟩
      have hF : tl (cutS x (some 1) none) = figL (tl x) := by
        rw [show (1 : Int) = ((1 : Nat) : Int) from rfl, cutS_from]
        rcases starts_dash x with ⟨_, r, er⟩ | ⟨e2, _⟩
        · rw [er] <;> rfl
        · rw [e2] at e1
          cases e1
      have lF : (cutS x (some 1) none).length ≤ 1000000 := Nat.le_trans (cutS_length x _ _) hl
      generalize cutS x (some 1) none = F at hF lF ⊢
    case' plain =>
      refine ⟨_, rfl, ?_⟩
      have hF0 : tl x = figL (tl x) := by
        rcases starts_dash x with ⟨e2, _⟩ | ⟨_, er⟩
        · exact absurd e2 e1
        · exact (figL_pos er).symm
      refine (fun hs : ∀ F, x = F → gName 1 (V.str F) (L2.start nn_number_in [V.str x]) H _ => hs x rfl) ?_
      intro F eF
      have hF : tl F = figL (tl x) := by
        rw [← eF]
        exact hF0
      have lF : F.length ≤ 1000000 := by
        rw [← eF]
        exact hl
    all_goals
      refine ⟨_, rfl, _, rfl, sz lF, _, _, rfl, rfl, _, rfl, ?_⟩
      refine ite2 (fun e1 => ?_) (fun e1 => ?_)
      · refine ⟨_, _, rfl, rfl, _, rfl, ?_⟩
        refine ite2 (fun e2 => ?_) (fun e2 => ?_)
        · refine out (num_none ?_) H (Same.refl H)
          rw [fig F hF lF, not_t e2, Bool.false_and, Bool.and_false, Bool.false_and]
        · refine ⟨_, rfl, F, rfl, fun D hD => ?_⟩
          refine lc_f walk_str (fun i => (tl F)[i]?.map fun c => V.bl (isDig c)) (sz_lt ?_) hD (fun _ _ => trivial) (fun i v H1 H2 N N0 hi s1 hy kN _ => ?_) (fun H1 s1 eD => ?_)
          · exact lF
          · obtain ⟨rfl, c, hc, rfl⟩ := hy
            refine ⟨rfl, yes_of ?_⟩
            refine ⟨_, rfl, c, _, rfl, rfl, ?_⟩
            refine kN _ _ ?_ (Same.refl _)
            rw [sign_at hc]
            show some (V.bl (isDig c)) = some (V.bl (decide (c ∈ tl (Str.ofString "0123456789"))))
            rw [mem_dig]
          · rw [all_signs] at eD
            refine ⟨_, _, rfl, SqL.of eD, _, rfl, ?_⟩
            rw [bl_list]
            refine ite2 (fun e3 => ?_) (fun e3 => ?_)
            · refine out (num_none ?_) H1 s1
              rw [fig F hF lF, not_t e3, Bool.and_false, Bool.and_false, Bool.false_and]
            · have h1 : 1 ≤ F.length := by
                have z := of_decide_eq_true e1
                omega
              obtain ⟨c, r, er⟩ : ∃ c r, tl F = c :: r := by
                cases z : tl F with
                | nil =>
                  rw [len_tl, z] at h1
                  exact absurd h1 (by decide)
                | cons c r => exact ⟨c, r, rfl⟩
              refine ⟨_, rfl, F, 0, c, rfl, rfl, sz lF, ?_, rfl, _, rfl, ?_⟩
              · show atI (tl F) ((0 : Nat) : Int) = some c
                rw [er]
                exact atI_nat rfl
              · have ok0 : okNum x = (decide ((tl F).head? ≠ some 48) || decide (tl x = [48])) := by
                  rw [fig F hF lF, e1, not_f e2, not_f e3, Bool.true_and, Bool.true_and, Bool.true_and]
                have last : okNum x = true → ∀ H', Same H H' → ∃ v, (L2.start nn_number_in [V.str x])[0]? = some (some v) ∧ ∃ a n, [v] = [V.str a] ∧ intText? a = some n ∧ a.length ≤ 640 ∧ Q (V.int n) H' := fun ok H' s => by
                  obtain ⟨n, n1, n2, n3, n4⟩ := num_back ok
                  have z := k H' s
                  rw [n1] at z
                  exact ⟨_, rfl, x, n, rfl, n2, Nat.le_trans n4 (by decide), z⟩
                refine ite2 (fun e4 => ?_) (fun e4 => ?_)
                · refine ⟨_, rfl, rfl, _, rfl, ?_⟩
                  have hc : c = 48 := by
                    rw [strV_eq, zero_tl] at e4
                    have z : [c] = [48] := of_decide_eq_true e4
                    injection z
                  refine ite2 (fun e5 => ?_) (fun e5 => ?_)
                  · refine out (num_none ?_) H1 s1
                    rw [strV_eq, zero_tl] at e5
                    rw [ok0, not_t e5, er, hc]
                    rfl
                  · refine last ?_ H1 s1
                    rw [strV_eq, zero_tl] at e5
                    rw [ok0, not_f e5, Bool.or_true]
                · refine last ?_ H1 s1
                  rw [strV_eq, zero_tl] at e4
                  have hc : ¬ c = 48 := fun z => e4 (by rw [z]; rfl)
                  rw [ok0, er]
                  have z : decide ((c :: r).head? ≠ some 48) = true := decide_eq_true fun q => hc (Option.some.inj q)
                  rw [z, Bool.true_or]
      · refine ⟨false, rfl, ?_⟩
        refine out (num_none ?_) H (Same.refl H)
        rw [fig F hF lF, ne_t e1, Bool.false_and, Bool.false_and]
def mvOk (x : Str) (a b : Option Int) : Bool := isName x && (whole a (-1000000000) 1000000000 && whole b 0 50)
def spIsMove : Sp := fun vs H Q _ => ∃ (t : Addr) (x : Str) (a b : Option Int), vs = [.ref t] ∧ H t = some (.tup [.str x, optV a, optV b]) ∧ x.length ≤ 1000000 ∧ ∀ H', Same H H' → Q (.bl (mvOk x a b)) H'
abbrev nn_is_move : List Str := ["thing"]
theorem sc_is_move : FnScope nn_is_move ["thing"] (defScope s_is_move) := ⟨rfl, rfl, rfl, by decide +kernel, rfl, by decide +kernel, by decide +kernel⟩
theorem ok_is_move (T : Tx K mg) : OkD P w K mg base CX0 2 ("is_move", none) ["thing"] spIsMove := by
  obtain ⟨fd_is_name, G_is_name, b_is_name, k_is_name⟩ := ok_is_name (P := P) (w := w) (base := base) T
  obtain ⟨fd_is_whole, G_is_whole, b_is_whole, k_is_whole⟩ := ok_is_whole (P := P) (w := w) (base := base) T
  refine OkD.mk T.f_is_move sc_is_move (fun _ _ _ _ _ _ us hl => match us, hl with | [_], _ => rfl) (fun vs H Q E h => ?_) (fun cdv A outer s H vs Q E hr h => ?_)
  · obtain ⟨t, x, a, b, rfl, _⟩ := h
    rfl
  · obtain ⟨t, x, a, b, rfl, ht, hl, k⟩ := h
    have hr_is_name : Room 1 _ := hr.mono (by decide)
    have hr_is_whole : Room 1 _ := hr.mono (by decide)
    refine ⟨_, (pss_cons (ps_if (PW.pt (pw_or (pt_not (pt_val (pe_callB call_isi (by rfl) T.b_isinstance bv_isinstance (pa_cons (pv 0) (pa_cons (pe_bltn (v := .ty "tuple") (by rfl) T.b_tuple bv_tuple rfl) pa_nil))))) (pw_or1 (pt_cmpR op_ne (pe_callB call_len_seq (by rfl) T.b_len bv_len (pa_cons (pv 0) pa_nil)) pe_int (by first | exact nomark _ | rfl)))))
        (pss_one (ps_ret pe_bl))
        pss_nil)
      (pss_one (ps_ret (pe_and (pe_call G_is_name hr_is_name (by rfl) T.g_is_name k_is_name b_is_name .nil pass0 (pa_cons (pe_ix ix_tup (pv 0) pe_int (fun _ _ => rfl)) pa_nil)) (pe_and (pe_call G_is_whole hr_is_whole (by rfl) T.g_is_whole k_is_whole b_is_whole .nil pass0 (pa_cons (pe_ix ix_tup (pv 0) pe_int (fun _ _ => rfl)) (pa_cons (pe_un un_neg (pe_glob (v := .int 1000000000) (by rfl) (T.c_MOST_PLACE).choose_spec ⟨_, rfl⟩)) (pa_cons (pe_glob (v := .int 1000000000) (by rfl) (T.c_MOST_PLACE).choose_spec ⟨_, rfl⟩) pa_nil)))) (pe_one (pe_call G_is_whole hr_is_whole (by rfl) T.g_is_whole k_is_whole b_is_whole .nil pass0 (pa_cons (pe_ix ix_tup (pv 0) pe_int (fun _ _ => rfl)) (pa_cons pe_int (pa_cons (pe_glob (v := .int 50) (by rfl) (T.c_MOST_WAIT).choose_spec ⟨_, rfl⟩) pa_nil)))))))))), ?_⟩
    refine ⟨_, rfl, _, _, _, _, true, rfl, .ty _, .base (.tup ht), kit_ty (by decide +kernel), true, rfl, iteF ?_⟩
    refine ⟨_, rfl, t, _, rfl, .inr (SqT.of ht), rfl, _, rfl, iteNS rfl ?_⟩
    refine ⟨_, rfl, t, _, 0, _, rfl, rfl, SqT.of ht, atI_nat (j := 0) rfl, x, rfl, hl, fun H1 s1 => ⟨_, rfl, ?_⟩⟩
    unfold mvOk at k
    cases e1 : isName x with
    | false =>
      rw [e1] at k
      exact iteF (k H1 s1)
    | true =>
      rw [e1, Bool.true_and] at k
      have ht1 := s1 _ _ ht
      refine iteT ⟨_, rfl, t, _, 1, _, rfl, rfl, SqT.of ht1, atI_nat (j := 1) rfl, 1000000000, rfl, a, -1000000000, 1000000000, rfl, _, rfl, ?_⟩
      cases e2 : whole a (-1000000000) 1000000000 with
      | false =>
        rw [e2] at k
        exact iteF (k H1 s1)
      | true =>
        rw [e2, Bool.true_and] at k
        exact iteT ⟨_, rfl, t, _, 2, _, rfl, rfl, SqT.of ht1, atI_nat (j := 2) rfl, b, 0, 50, rfl, k H1 s1⟩
def foOk (x : Str) (b : Option Int) : Bool := isName x && whole b 0 50
def spIsFollower : Sp := fun vs H Q _ => ∃ (t : Addr) (x : Str) (b : Option Int), vs = [.ref t] ∧ H t = some (.tup [.str x, optV b]) ∧ x.length ≤ 1000000 ∧ ∀ H', Same H H' → Q (.bl (foOk x b)) H'
abbrev nn_is_follower : List Str := ["thing"]
theorem sc_is_follower : FnScope nn_is_follower ["thing"] (defScope s_is_follower) := ⟨rfl, rfl, rfl, by decide +kernel, rfl, by decide +kernel, by decide +kernel⟩
theorem ok_is_follower (T : Tx K mg) : OkD P w K mg base CX0 2 ("is_follower", none) ["thing"] spIsFollower := by
  obtain ⟨fd_is_name, G_is_name, b_is_name, k_is_name⟩ := ok_is_name (P := P) (w := w) (base := base) T
  obtain ⟨fd_is_whole, G_is_whole, b_is_whole, k_is_whole⟩ := ok_is_whole (P := P) (w := w) (base := base) T
  refine OkD.mk T.f_is_follower sc_is_follower (fun _ _ _ _ _ _ us hl => match us, hl with | [_], _ => rfl) (fun vs H Q E h => ?_) (fun cdv A outer s H vs Q E hr h => ?_)
  · obtain ⟨t, x, b, rfl, _⟩ := h
    rfl
  · obtain ⟨t, x, b, rfl, ht, hl, k⟩ := h
    have hr_is_name : Room 1 _ := hr.mono (by decide)
    have hr_is_whole : Room 1 _ := hr.mono (by decide)
    refine ⟨_, (pss_cons (ps_if (PW.pt (pw_or (pt_not (pt_val (pe_callB call_isi (by rfl) T.b_isinstance bv_isinstance (pa_cons (pv 0) (pa_cons (pe_bltn (v := .ty "tuple") (by rfl) T.b_tuple bv_tuple rfl) pa_nil))))) (pw_or1 (pt_cmpR op_ne (pe_callB call_len_seq (by rfl) T.b_len bv_len (pa_cons (pv 0) pa_nil)) pe_int (by first | exact nomark _ | rfl)))))
        (pss_one (ps_ret pe_bl))
        pss_nil)
      (pss_one (ps_ret (pe_and (pe_call G_is_name hr_is_name (by rfl) T.g_is_name k_is_name b_is_name .nil pass0 (pa_cons (pe_ix ix_tup (pv 0) pe_int (fun _ _ => rfl)) pa_nil)) (pe_one (pe_call G_is_whole hr_is_whole (by rfl) T.g_is_whole k_is_whole b_is_whole .nil pass0 (pa_cons (pe_ix ix_tup (pv 0) pe_int (fun _ _ => rfl)) (pa_cons pe_int (pa_cons (pe_glob (v := .int 50) (by rfl) (T.c_MOST_WAIT).choose_spec ⟨_, rfl⟩) pa_nil))))))))), ?_⟩
    refine ⟨_, rfl, _, _, _, _, true, rfl, .ty _, .base (.tup ht), kit_ty (by decide +kernel), true, rfl, iteF ?_⟩
    refine ⟨_, rfl, t, _, rfl, .inr (SqT.of ht), rfl, _, rfl, iteNS rfl ?_⟩
    refine ⟨_, rfl, t, _, 0, _, rfl, rfl, SqT.of ht, atI_nat (j := 0) rfl, x, rfl, hl, fun H1 s1 => ⟨_, rfl, ?_⟩⟩
    unfold foOk at k
    cases e1 : isName x with
    | false =>
      rw [e1] at k
      exact iteF (k H1 s1)
    | true =>
      rw [e1, Bool.true_and] at k
      have ht1 := s1 _ _ ht
      exact iteT ⟨_, rfl, t, _, 1, _, rfl, rfl, SqT.of ht1, atI_nat (j := 1) rfl, b, 0, 50, rfl, k H1 s1⟩
/-- are_unlike(names), names unlike -/
def spAreUnlike (K : PySem.W.Frag) : Sp := fun vs H Q _ => ∃ (l : Addr) (xs : List Str), vs = [.ref l] ∧ SqL K H l (xs.map V.str) ∧ xs.Nodup ∧ xs.length < 4000 ∧ Q (.bl true) H
abbrev nn_are_unlike : List Str := ["names"]
theorem sc_are_unlike : FnScope nn_are_unlike ["names"] (defScope s_are_unlike) := ⟨rfl, rfl, rfl, by decide +kernel, rfl, by decide +kernel, by decide +kernel⟩
theorem ok_are_unlike (T : Tx K mg) : OkD P w K mg base CX0 1 ("are_unlike", none) ["names"] (spAreUnlike K) := by
  refine OkD.mk T.f_are_unlike sc_are_unlike (fun _ _ _ _ _ _ us hl => match us, hl with | [_], _ => rfl) (fun vs H Q E h => ?_) (fun cdv A outer s H vs Q E hr h => ?_)
  · obtain ⟨l, xs, rfl, _⟩ := h
    rfl
  · obtain ⟨l, xs, rfl, hl, nd, hn, k⟩ := h
    refine ⟨_, (pss_one (ps_ret (pe_cmpR op_eq (pe_lenSetS rfl (by rfl) T.b_len (by rfl) T.b_set (pv 0)) (pe_callB call_len_seq (by rfl) T.b_len bv_len (pa_cons (pv 0) pa_nil)) (by first | exact nomark _ | rfl)))), ?_⟩
    refine ⟨_, rfl, l, xs, rfl, hl, nd, hn, _, rfl, l, _, rfl, .inl hl, rfl, ?_⟩
    have e : decide (V.int (xs.length : Nat) = V.int ((xs.map V.str).length : Nat)) = true := decide_eq_true (by rw [List.length_map])
    show Q (.bl (decide (V.int (xs.length : Nat) = V.int ((xs.map V.str).length : Nat)))) H
    rw [e]
    exact k
end
end Fw

/-! ==== FwR ==== -/
set_option Elab.async false
set_option linter.all false
set_option maxRecDepth 100000
set_option maxHeartbeats 4000000
/-! cues: what they are, how they stand in the heap, as data, as text, how rows make them -/
namespace Fw
open PySem PySem.Spec PyProof.Rows L2 TL
/-! ### pairs of lists -/
section
variable {α β γ : Type} {F G : α → β → Prop}
theorem Paired.get : ∀ {xs : List α} {ys : List β} {i : Nat} {x : α}, Paired F xs ys → xs[i]? = some x → ∃ y, ys[i]? = some y ∧ F x y
  | _, _, _, _, .nil, e => by simp at e
  | _, _, 0, _, .cons r _, e => by
    simp at e
    subst e
    exact ⟨_, rfl, r⟩
  | _, _, i + 1, x, .cons _ t, e => by
    obtain ⟨u, h1, h2⟩ := Paired.get (i := i) (x := x) t (by simpa using e)
    exact ⟨u, by simpa using h1, h2⟩
theorem Paired.get2 : ∀ {xs : List α} {ys : List β} {i : Nat} {y : β}, Paired F xs ys → ys[i]? = some y → ∃ x, xs[i]? = some x ∧ F x y
  | _, _, _, _, .nil, e => by simp at e
  | _, _, 0, _, .cons r _, e => by
    simp at e
    subst e
    exact ⟨_, rfl, r⟩
  | _, _, i + 1, y, .cons _ t, e => by
    obtain ⟨u, h1, h2⟩ := Paired.get2 (i := i) (y := y) t (by simpa using e)
    exact ⟨u, by simpa using h1, h2⟩
theorem Paired.memL : ∀ {xs : List α} {ys : List β} {x : α}, Paired F xs ys → x ∈ xs → ∃ y ∈ ys, F x y
  | _, _, _, .nil, h => by cases h
  | _, _, x, .cons (b := b) r t, h => by
    rcases List.mem_cons.mp h with e | h
    · subst e
      exact ⟨b, List.mem_cons_self, r⟩
    · obtain ⟨y, hy, q⟩ := Paired.memL t h
      exact ⟨y, List.mem_cons_of_mem _ hy, q⟩
theorem Paired.impM : ∀ {xs : List α} {ys : List β}, Paired F xs ys → (∀ a b, a ∈ xs → b ∈ ys → F a b → G a b) → Paired G xs ys
  | _, _, .nil, _ => .nil
  | _, _, .cons r t, h => .cons (h _ _ List.mem_cons_self List.mem_cons_self r) (Paired.impM t fun a b ha hb => h a b (List.mem_cons_of_mem _ ha) (List.mem_cons_of_mem _ hb))
theorem Paired.app : ∀ {xs : List α} {ys : List β} {xs' : List α} {ys' : List β}, Paired F xs ys → Paired F xs' ys' → Paired F (xs ++ xs') (ys ++ ys')
  | _, _, _, _, .nil, s => s
  | _, _, _, _, .cons r t, s => .cons r (Paired.app t s)
theorem Paired.of_get : ∀ {xs : List α} {ys : List β}, xs.length = ys.length → (∀ (i : Nat) x y, xs[i]? = some x → ys[i]? = some y → F x y) → Paired F xs ys
  | [], [], _, _ => .nil
  | [], _ :: _, e, _ => by cases e
  | _ :: _, [], e, _ => by cases e
  | x :: xs, y :: ys, e, h => .cons (h 0 x y rfl rfl) (Paired.of_get (Nat.succ.inj e) fun i a b ha hb => h (i + 1) a b ha hb)
end
/-! ### cues -/
structure Cue where
  name : Str
  moves : List (Str × Int × Int)
  fols : List (Str × Int)
/-- small enough for a text -/
structure Cue.Sm (c : Cue) : Prop where
  n : c.name.length ≤ 8
  ml : c.moves.length ≤ 7
  fl : c.fols.length ≤ 4
  m : ∀ m ∈ c.moves, m.1.length ≤ 8 ∧ (-1000000000 ≤ m.2.1 ∧ m.2.1 ≤ 1000000000) ∧ (0 ≤ m.2.2 ∧ m.2.2 ≤ 50)
  f : ∀ f ∈ c.fols, f.1.length ≤ 8 ∧ (0 ≤ f.2 ∧ f.2 ≤ 50)
/-- a move, a follower of a sheet -/
def mvOkB (m : Str × Int × Int) : Bool := isName m.1 && (whole (some m.2.1) (-1000000000) 1000000000 && whole (some m.2.2) 0 50)
def foOkB (f : Str × Int) : Bool := isName f.1 && whole (some f.2) 0 50
/-- what a reader asks of a cue so far -/
structure Cue.W (c : Cue) : Prop where
  n : isName c.name = true
  ml : c.moves.length ≤ 6
  fl : c.fols.length ≤ 3
  m : ∀ m ∈ c.moves, mvOkB m = true
  f : ∀ f ∈ c.fols, foOkB f = true
  nd : (c.moves.map (·.1)).Nodup
theorem isName_len {x : Str} (h : isName x = true) : 1 ≤ x.length ∧ x.length ≤ 8 := by
  unfold isName at h
  simp only [Bool.and_eq_true, decide_eq_true_eq] at h
  exact h.1
theorem whole_ok {i a b : Int} (h : whole (some i) a b = true) : a ≤ i ∧ i ≤ b := by
  unfold whole at h
  simpa using h
theorem mvOkB_ok {m : Str × Int × Int} (h : mvOkB m = true) : isName m.1 = true ∧ (-1000000000 ≤ m.2.1 ∧ m.2.1 ≤ 1000000000) ∧ (0 ≤ m.2.2 ∧ m.2.2 ≤ 50) := by
  unfold mvOkB at h
  obtain ⟨h1, h⟩ := Bool.and_eq_true_iff.mp h
  obtain ⟨h2, h3⟩ := Bool.and_eq_true_iff.mp h
  exact ⟨h1, whole_ok h2, whole_ok h3⟩
theorem foOkB_ok {f : Str × Int} (h : foOkB f = true) : isName f.1 = true ∧ (0 ≤ f.2 ∧ f.2 ≤ 50) := by
  unfold foOkB at h
  obtain ⟨h1, h2⟩ := Bool.and_eq_true_iff.mp h
  exact ⟨h1, whole_ok h2⟩
theorem Cue.W.sm {c : Cue} (h : c.W) : c.Sm :=
  ⟨(isName_len h.n).2, by have := h.ml; omega, by have := h.fl; omega, fun m hm => ⟨(isName_len (mvOkB_ok (h.m m hm)).1).2, (mvOkB_ok (h.m m hm)).2⟩, fun f hf => ⟨(isName_len (foOkB_ok (h.f f hf)).1).2, (foOkB_ok (h.f f hf)).2⟩⟩
/-! ### how cues stand in the heap -/
def MvAt (H : Hp) (t : Addr) (m : Str × Int × Int) : Prop := H t = some (.tup [.str m.1, .int m.2.1, .int m.2.2])
def FoAt (H : Hp) (t : Addr) (f : Str × Int) : Prop := H t = some (.tup [.str f.1, .int f.2])
def MvsAt (H : Hp) (a : Addr) (ms : List (Str × Int × Int)) : Prop := ∃ ts : List Addr, H a = some (.lst (ts.map V.ref)) ∧ Paired (MvAt H) ts ms
def FosAt (H : Hp) (a : Addr) (fs : List (Str × Int)) : Prop := ∃ ts : List Addr, H a = some (.lst (ts.map V.ref)) ∧ Paired (FoAt H) ts fs
/-- a cue's tuple, its list of moves, its list of followers -/
abbrev Trip : Type := Addr × Addr × Addr
def CueAt (H : Hp) (e : Trip) (c : Cue) : Prop := H e.1 = some (.tup [.str c.name, .ref e.2.1, .ref e.2.2]) ∧ MvsAt H e.2.1 c.moves ∧ FosAt H e.2.2 c.fols
def CuesAt (H : Hp) (l : Addr) (es : List Trip) (cs : List Cue) : Prop := H l = some (.lst (es.map fun e => V.ref e.1)) ∧ Paired (CueAt H) es cs
theorem MvsAt.same {H H' : Hp} {a : Addr} {ms : List (Str × Int × Int)} (s : Same H H') (h : MvsAt H a ms) : MvsAt H' a ms := by
  obtain ⟨ts, h1, h2⟩ := h
  exact ⟨ts, s _ _ h1, Paired.mapP h2 fun t m e => s _ _ e⟩
theorem FosAt.same {H H' : Hp} {a : Addr} {fs : List (Str × Int)} (s : Same H H') (h : FosAt H a fs) : FosAt H' a fs := by
  obtain ⟨ts, h1, h2⟩ := h
  exact ⟨ts, s _ _ h1, Paired.mapP h2 fun t m e => s _ _ e⟩
theorem CueAt.same {H H' : Hp} {e : Trip} {c : Cue} (s : Same H H') (h : CueAt H e c) : CueAt H' e c := ⟨s _ _ h.1, h.2.1.same s, h.2.2.same s⟩
theorem CuesAt.same {H H' : Hp} {l : Addr} {es : List Trip} {cs : List Cue} (s : Same H H') (h : CuesAt H l es cs) : CuesAt H' l es cs := ⟨s _ _ h.1, Paired.mapP h.2 fun _ _ q => q.same s⟩
/-- a list is changed that none of these is: nothing of them changes -/
theorem MvsAt.upd {H : Hp} {a p : Addr} {ms : List (Str × Int × Int)} {xs ys : List V} (h : MvsAt H a ms) (hp : H p = some (.lst xs)) (n : a ≠ p) : MvsAt (upd H p (.lst ys)) a ms := by
  obtain ⟨ts, h1, h2⟩ := h
  exact ⟨ts, by rw [upd_ne n]; exact h1, Paired.mapP h2 fun t m e => by
    have e' : H t = _ := e
    show L2.upd H p (.lst ys) t = _
    rw [upd_ne (ne_of e' hp (by intro z; cases z))]
    exact e'⟩
theorem FosAt.upd {H : Hp} {a p : Addr} {ms : List (Str × Int)} {xs ys : List V} (h : FosAt H a ms) (hp : H p = some (.lst xs)) (n : a ≠ p) : FosAt (upd H p (.lst ys)) a ms := by
  obtain ⟨ts, h1, h2⟩ := h
  exact ⟨ts, by rw [upd_ne n]; exact h1, Paired.mapP h2 fun t m e => by
    have e' : H t = _ := e
    show L2.upd H p (.lst ys) t = _
    rw [upd_ne (ne_of e' hp (by intro z; cases z))]
    exact e'⟩
theorem CueAt.upd {H : Hp} {e : Trip} {p : Addr} {c : Cue} {xs ys : List V} (h : CueAt H e c) (hp : H p = some (.lst xs)) (n1 : e.2.1 ≠ p) (n2 : e.2.2 ≠ p) : CueAt (upd H p (.lst ys)) e c :=
  ⟨by rw [upd_ne (ne_of h.1 hp (by intro z; cases z))]; exact h.1, h.2.1.upd hp n1, h.2.2.upd hp n2⟩
/-! ### cues as data -/
def moveD (m : Str × Int × Int) : PyData := .tuple [.str m.1, .int m.2.1, .int m.2.2]
def folD (f : Str × Int) : PyData := .tuple [.str f.1, .int f.2]
def cueD (c : Cue) : PyData := .tuple [.str c.name, .list (c.moves.map moveD), .list (c.fols.map folD)]
def cuesD (cs : List Cue) : PyData := .list (cs.map cueD)
section
variable {K : PySem.W.Frag} {H : Hp}
theorem dpAll_of {α : Type} {f : α → PyData} {F : Addr → α → Prop} (hf : ∀ t m, F t m → Dp K H (.ref t) (f m)) : ∀ {ts : List Addr} {ms : List α}, Paired F ts ms → DpAll K H (ts.map V.ref) (ms.map f)
  | _, _, .nil => .nil
  | _, _, .cons r t => .cons (hf _ _ r) (dpAll_of hf t)
theorem mvAt_dp {t : Addr} {m : Str × Int × Int} (h : MvAt H t m) : Dp K H (.ref t) (moveD m) := .tup (SqT.of h) (.cons (.str _) (.cons (.int _) (.cons (.int _) .nil)))
theorem foAt_dp {t : Addr} {f : Str × Int} (h : FoAt H t f) : Dp K H (.ref t) (folD f) := .tup (SqT.of h) (.cons (.str _) (.cons (.int _) .nil))
theorem mvsAt_dp {a : Addr} {ms : List (Str × Int × Int)} (h : MvsAt H a ms) : Dp K H (.ref a) (.list (ms.map moveD)) := by
  obtain ⟨ts, h1, h2⟩ := h
  exact .lst (SqL.of h1) (dpAll_of (fun _ _ q => mvAt_dp q) h2)
theorem fosAt_dp {a : Addr} {fs : List (Str × Int)} (h : FosAt H a fs) : Dp K H (.ref a) (.list (fs.map folD)) := by
  obtain ⟨ts, h1, h2⟩ := h
  exact .lst (SqL.of h1) (dpAll_of (fun _ _ q => foAt_dp q) h2)
theorem cueAt_dp {e : Trip} {c : Cue} (h : CueAt H e c) : Dp K H (.ref e.1) (cueD c) := .tup (SqT.of h.1) (.cons (.str _) (.cons (mvsAt_dp h.2.1) (.cons (fosAt_dp h.2.2) .nil)))
theorem cuesAt_dp {l : Addr} {es : List Trip} {cs : List Cue} (h : CuesAt H l es cs) : Dp K H (.ref l) (cuesD cs) := by
  refine .lst (SqL.of h.1) ?_
  have all : ∀ {es : List Trip} {cs : List Cue}, Paired (CueAt H) es cs → DpAll K H (es.map fun e => V.ref e.1) (cs.map cueD) := by
    intro es cs p
    induction p with
    | nil => exact .nil
    | cons r _ ih => exact .cons (cueAt_dp r) ih
  exact all h.2
end
theorem strOk_name {x : Str} (h : isName x = true) : PyData.strOk x = true := by
  unfold isName at h
  have h2 := (Bool.and_eq_true_iff.mp h).2
  have h3 := List.all_eq_true.mp h2
  unfold PyData.strOk
  rw [Array.all_eq_true]
  intro i hi
  have m : x.cps[i] ∈ tl x := by
    show x.cps[i] ∈ x.cps.toList
    exact Array.mem_toList_iff.mpr (Array.getElem_mem hi)
  have q := h3 _ m
  unfold isLow at q
  simp only [Bool.and_eq_true, decide_eq_true_eq] at q
  exact decide_eq_true (by omega)
theorem lay_all {α : Type} {f : α → PyData} : ∀ {l : List α}, (∀ a ∈ l, (f a).canLay0 = true) → PyData.canLayAll0 (l.map f) = true
  | [], _ => rfl
  | a :: l, h => by
    have h1 := h a List.mem_cons_self
    have h2 := lay_all (l := l) fun b hb => h b (List.mem_cons_of_mem _ hb)
    show ((f a).canLay0 && PyData.canLayAll0 (l.map f)) = true
    rw [h1, h2] <;> rfl
theorem dep_all {α : Type} {f : α → PyData} {n : Nat} : ∀ {l : List α}, (∀ a ∈ l, (f a).depth ≤ n) → PyData.depthAll (l.map f) ≤ n
  | [], _ => Nat.zero_le _
  | a :: l, h => by
    have h1 := h a List.mem_cons_self
    have h2 := dep_all (l := l) fun b hb => h b (List.mem_cons_of_mem _ hb)
    show max (f a).depth (PyData.depthAll (l.map f)) ≤ n
    exact Nat.max_le.mpr ⟨h1, h2⟩
theorem shaped_of {d : PyData} (h1 : d.canLay0 = true) (h2 : d.depth ≤ 64) : SeqAt.shaped d = true := by
  unfold SeqAt.shaped
  rw [h1, decide_eq_true h2] <;> rfl
theorem lay_move {m : Str × Int × Int} (h : mvOkB m = true) : (moveD m).canLay0 = true := by
  unfold moveD
  simp [PyData.canLay0, PyData.canLayAll0, strOk_name (mvOkB_ok h).1]
theorem lay_fol {f : Str × Int} (h : foOkB f = true) : (folD f).canLay0 = true := by
  unfold folD
  simp [PyData.canLay0, PyData.canLayAll0, strOk_name (foOkB_ok h).1]
theorem lay_cue {c : Cue} (h : c.W) : (cueD c).canLay0 = true := by
  have h1 := lay_all (f := moveD) fun m hm => lay_move (h.m m hm)
  have h2 := lay_all (f := folD) fun m hm => lay_fol (h.f m hm)
  unfold cueD
  simp [PyData.canLay0, PyData.canLayAll0, strOk_name h.n, h1, h2]
theorem dep_move (m : Str × Int × Int) : (moveD m).depth ≤ 1 := by
  unfold moveD
  simp [PyData.depth, PyData.depthAll]
theorem dep_fol (m : Str × Int) : (folD m).depth ≤ 1 := by
  unfold folD
  simp [PyData.depth, PyData.depthAll]
theorem dep_cue (c : Cue) : (cueD c).depth ≤ 3 := by
  have h1 := dep_all (f := moveD) (n := 1) (l := c.moves) fun m _ => dep_move m
  have h2 := dep_all (f := folD) (n := 1) (l := c.fols) fun m _ => dep_fol m
  unfold cueD
  simp only [PyData.depth, PyData.depthAll]
  omega
theorem moves_shaped {ms : List (Str × Int × Int)} (h : ∀ m ∈ ms, mvOkB m = true) : SeqAt.shaped (.list (ms.map moveD)) = true := by
  refine shaped_of ?_ ?_
  · exact lay_all (f := moveD) fun m hm => lay_move (h m hm)
  · have h1 := dep_all (f := moveD) (n := 1) (l := ms) fun m _ => dep_move m
    show PyData.depthAll (ms.map moveD) + 1 ≤ 64
    omega
theorem fols_shaped {fs : List (Str × Int)} (h : ∀ m ∈ fs, foOkB m = true) : SeqAt.shaped (.list (fs.map folD)) = true := by
  refine shaped_of ?_ ?_
  · exact lay_all (f := folD) fun m hm => lay_fol (h m hm)
  · have h1 := dep_all (f := folD) (n := 1) (l := fs) fun m _ => dep_fol m
    show PyData.depthAll (fs.map folD) + 1 ≤ 64
    omega
theorem cues_shaped {cs : List Cue} (h : ∀ c ∈ cs, c.W) : SeqAt.shaped (cuesD cs) = true := by
  refine shaped_of ?_ ?_
  · exact lay_all (f := cueD) fun c hc => lay_cue (h c hc)
  · have h1 := dep_all (f := cueD) (n := 3) (l := cs) fun c _ => dep_cue c
    show PyData.depthAll (cs.map cueD) + 1 ≤ 64
    omega
theorem cues_refl {cs : List Cue} (h : ∀ c ∈ cs, c.W) : PyData.eqv (cuesD cs) (cuesD cs) = true := SeqAt.eqv_refl _ (SeqAt.canLay_of_shaped (cues_shaped h))
theorem eqv_empty (l : List PyData) : PyData.eqv (.list l) (.list []) = l.isEmpty := by
  cases l with
  | nil => rfl
  | cons a r => simp [PyData.eqv, PyData.eqvAll]
end Fw

/-! ==== FwT ==== -/
set_option Elab.async false
set_option linter.all false
set_option maxRecDepth 100000
set_option maxHeartbeats 4000000
/-! rows and cues: what a row does, what a text reads as, that the cues write the text back; no program here -/
namespace Fw
open PySem PySem.Spec PyProof.Rows L2 TL
abbrev sNl : Str := Str.ofString "\n"
abbrev sBl : Str := Str.ofString " "
abbrev sCue : Str := Str.ofString "cue"
abbrev sMove : Str := Str.ofString "move"
abbrev sThen : Str := Str.ofString "then"
theorem nl_tl : tl sNl = [10] := by decide +kernel
theorem bl_tl : tl sBl = [32] := by decide +kernel
theorem cue_tl : tl sCue = [99, 117, 101] := by decide +kernel
theorem move_tl : tl sMove = [109, 111, 118, 101] := by decide +kernel
theorem then_tl : tl sThen = [116, 104, 101, 110] := by decide +kernel
theorem cueB_tl : tl (Str.ofString "cue ") = [99, 117, 101, 32] := by decide +kernel
theorem moveB_tl : tl (Str.ofString "move ") = [109, 111, 118, 101, 32] := by decide +kernel
theorem thenB_tl : tl (Str.ofString "then ") = [116, 104, 101, 110, 32] := by decide +kernel
theorem nl_len : sNl.length = 1 := by rw [len_tl, nl_tl] <;> rfl
theorem bl_len : sBl.length = 1 := by rw [len_tl, bl_tl] <;> rfl
/-! ### split and join -/
theorem spl1_join (s : Nat) : ∀ (l acc : List Nat), joinL [s] (spl [s] 0 acc l) = acc ++ l
  | [], acc => by
    rw [spl_nil]
    show acc = acc ++ []
    rw [List.append_nil]
  | c :: r, acc => by
    by_cases h : pre [s] (c :: r) = true
    · have hc : c = s := by
        unfold pre at h
        simpa using h
      rw [spl_hit h]
      have ih := spl1_join s r []
      rw [show ([s] : List Nat).length - 1 = 0 from rfl]
      have ne : ∃ a t, spl [s] 0 [] r = a :: t := by
        cases e : spl [s] 0 [] r with
        | nil =>
          exfalso
          have : ∀ (l acc : List Nat), spl [s] 0 acc l ≠ [] := by
            intro l
            induction l with
            | nil =>
              intro acc
              rw [spl_nil]
              simp
            | cons c r ih =>
              intro acc
              by_cases h : pre [s] (c :: r) = true
              · rw [spl_hit h]
                simp
              · rw [spl_miss (Bool.eq_false_iff.mpr h)]
                exact ih _
          exact this r [] e
        | cons a t => exact ⟨a, t, rfl⟩
      obtain ⟨a, t, e⟩ := ne
      rw [e] at ih ⊢
      show acc ++ ([s] ++ joinL [s] (a :: t)) = acc ++ c :: r
      rw [ih, hc] <;> rfl
    · rw [spl_miss (Bool.eq_false_iff.mpr h), spl1_join s r (acc ++ [c])]
      simp
theorem spl_ne (s : Nat) : ∀ (l acc : List Nat), spl [s] 0 acc l ≠ []
  | [], acc => by
    rw [spl_nil]
    simp
  | c :: r, acc => by
    by_cases h : pre [s] (c :: r) = true
    · rw [spl_hit h]
      simp
    · rw [spl_miss (Bool.eq_false_iff.mpr h)]
      exact spl_ne s r _
section
variable {y : Str} {s : Nat}
theorem split_is (ey : tl y = [s]) (hs : s < 256) (x : Str) : (Txt.split x y).map tl = spl [s] 0 [] (tl x) := by
  have hk : y.cps.all (· < 256) = true := by
    rw [Array.all_eq_true]
    intro i hi
    have m : y.cps[i] ∈ tl y := Array.mem_toList_iff.mpr (Array.getElem_mem hi)
    rw [ey] at m
    rw [List.mem_singleton.mp m]
    exact decide_eq_true hs
  have h := split_spl x y (by rw [ey]; simp) (kind_ok hk)
  rw [ey] at h
  exact h
theorem join_split (ey : tl y = [s]) (hs : s < 256) (x : Str) : Txt.join y (Txt.split x y) = x := by
  refine ext_tl ?_
  rw [join_eq, tl_join, ey, split_is ey hs, spl1_join]
  rfl
theorem split_ne (ey : tl y = [s]) (hs : s < 256) (x : Str) : Txt.split x y ≠ [] := fun e => by
  have h := split_is ey hs x
  rw [e] at h
  exact spl_ne s (tl x) [] h.symm
/-- the sum of the lengths, one more for each -/
def lens (xs : List Str) : Nat := (xs.map fun x => x.length + 1).sum
theorem lens_nil : lens [] = 0 := rfl
theorem lens_cons (x : Str) (xs : List Str) : lens (x :: xs) = x.length + 1 + lens xs := by
  unfold lens
  rw [List.map_cons, List.sum_cons]
theorem lens_app (xs ys : List Str) : lens (xs ++ ys) = lens xs + lens ys := by
  unfold lens
  rw [List.map_append, List.sum_append]
theorem lens_take (xs : List Str) (n : Nat) : lens (xs.take n) ≤ lens xs := by
  have h := lens_app (xs.take n) (xs.drop n)
  rw [List.take_append_drop] at h
  omega
theorem lens_drop (xs : List Str) (n : Nat) : lens (xs.drop n) ≤ lens xs := by
  have h := lens_app (xs.take n) (xs.drop n)
  rw [List.take_append_drop] at h
  omega
theorem lens_rev (xs : List Str) : lens xs.reverse = lens xs := by
  induction xs with
  | nil => rfl
  | cons a r ih =>
    rw [List.reverse_cons, lens_app, ih, lens_cons, lens_cons, lens_nil]
    omega
theorem lens_len (xs : List Str) : xs.length ≤ lens xs := by
  induction xs with
  | nil => exact Nat.le_refl _
  | cons a r ih =>
    rw [lens_cons, List.length_cons]
    omega
theorem lens_mem {xs : List Str} {x : Str} (h : x ∈ xs) : x.length + 1 ≤ lens xs := by
  induction xs with
  | nil => cases h
  | cons a r ih =>
    rw [lens_cons]
    rcases List.mem_cons.mp h with e | h
    · rw [e]
      omega
    · have := ih h
      omega
theorem joinL_len (s : Nat) : ∀ {ps : List (List Nat)}, ps ≠ [] → (joinL [s] ps).length + 1 = (ps.map fun p => p.length + 1).sum
  | [], h => absurd rfl h
  | [p], _ => by
    show p.length + 1 = _
    simp
  | p :: q :: r, _ => by
    have ih := joinL_len s (ps := q :: r) (by simp)
    show (p ++ ([s] ++ joinL [s] (q :: r))).length + 1 = _
    rw [List.map_cons, List.sum_cons, ← ih, List.length_append, List.length_append]
    have z : ([s] : List Nat).length = 1 := rfl
    omega
theorem join_len (ey : tl y = [s]) {ps : List Str} (h : ps ≠ []) : (Txt.join y ps).length + 1 = lens ps := by
  rw [len_tl, join_eq, tl_join, ey, joinL_len s (by simpa using h)]
  unfold lens
  rw [List.map_map]
  congr 1
theorem join_le (ey : tl y = [s]) (ps : List Str) : (Txt.join y ps).length ≤ lens ps := by
  cases ps with
  | nil =>
    rw [len_tl, join_eq, tl_join]
    exact Nat.le_refl _
  | cons a r =>
    have := join_len (y := y) ey (ps := a :: r) (by simp)
    omega
theorem split_lens (ey : tl y = [s]) (hs : s < 256) (x : Str) : lens (Txt.split x y) = x.length + 1 := by
  rw [← join_len ey (split_ne ey hs x), join_split ey hs]
end
/-! ### the rows of cues -/
abbrev numS (i : Int) : Str := Str.ofString (toString i)
def moveRow (m : Str × Int × Int) : Str := Str.ofString "move " ++ m.1 ++ sBl ++ numS m.2.1 ++ sBl ++ numS m.2.2
def thenRow (f : Str × Int) : Str := Str.ofString "then " ++ f.1 ++ sBl ++ numS f.2
def cueRow (c : Cue) : Str := Str.ofString "cue " ++ c.name
def cueRows (c : Cue) : List Str := cueRow c :: (c.moves.map moveRow ++ c.fols.map thenRow)
def allRows (cs : List Cue) : List Str := cs.flatMap cueRows
def sheetText (cs : List Cue) : Str := Txt.join sNl (allRows cs)
theorem allRows_snoc (cs : List Cue) (c : Cue) : allRows (cs ++ [c]) = allRows cs ++ cueRows c := by
  unfold allRows
  rw [List.flatMap_append]
  simp
/-! ### what a row does -/
def lastOpen (cs : List Cue) : Bool := match cs.getLast? with
  | some c => c.moves.isEmpty
  | none => false
def cueIn (cs : List Cue) (ws : List Str) : Option (List Cue) := match ws with
  | [_, n] => if (isName n && (!lastOpen cs && (decide (cs.length ≠ 12) && decide (n ∉ cs.map (·.name))))) = true then some (cs ++ [⟨n, [], []⟩]) else none
  | _ => none
def moveIn (cs : List Cue) (ws : List Str) : Option (List Cue) := match ws, cs.getLast? with
  | [_, n, g, t], some c => if (mvOk n (numOf g) (numOf t) && (c.fols.isEmpty && (decide (c.moves.length ≠ 6) && decide (n ∉ c.moves.map (·.1))))) = true
      then some (cs.dropLast ++ [{ c with moves := c.moves ++ [(n, (numOf g).getD 0, (numOf t).getD 0)] }]) else none
  | _, _ => none
def thenIn (cs : List Cue) (ws : List Str) : Option (List Cue) := match ws, cs.getLast? with
  | [_, n, t], some c => if (!c.moves.isEmpty && (foOk n (numOf t) && decide (c.fols.length ≠ 3))) = true then some (cs.dropLast ++ [{ c with fols := c.fols ++ [(n, (numOf t).getD 0)] }]) else none
  | _, _ => none
def rowIn (cs : List Cue) (ws : List Str) : Option (List Cue) := match ws with
  | [] => none
  | v :: _ => if v = sCue then cueIn cs ws else if v = sMove then moveIn cs ws else if v = sThen then thenIn cs ws else none
def rowsIn : List Cue → List Str → Nat → Sum Nat (List Cue)
  | cs, [], _ => .inr cs
  | cs, r :: rs, k => match rowIn cs (Txt.split r sBl) with
    | none => .inl (k + 1)
    | some cs' => rowsIn cs' rs (k + 1)
/-- the row that can't stand there, or the cues -/
def readOf (x : Str) : Sum Nat (List Cue) := match rowsIn [] (Txt.split x sNl) 0 with
  | .inl k => .inl k
  | .inr cs => if lastOpen cs = true then .inl ((Txt.split x sNl).length + 1) else .inr cs
/-! ### what stands between two rows -/
structure SoFar (cs : List Cue) : Prop where
  w : ∀ c ∈ cs, c.W
  len : cs.length ≤ 12
  nd : (cs.map (·.name)).Nodup
  shut : ∀ c ∈ cs.dropLast, c.moves ≠ []
theorem last_split {cs : List Cue} {c : Cue} (h : cs.getLast? = some c) : cs = cs.dropLast ++ [c] := by
  obtain ⟨ys, rfl⟩ := List.getLast?_eq_some_iff.mp h
  rw [List.dropLast_concat]
theorem SoFar.nil : SoFar [] := ⟨fun c h => (by cases h), Nat.zero_le _, List.nodup_nil, fun c h => (by cases h)⟩
theorem whole_some {o : Option Int} {a b : Int} (h : whole o a b = true) : ∃ i, o = some i := by
  cases o with
  | none => cases h
  | some i => exact ⟨i, rfl⟩
theorem cueIn_ok {cs cs' : List Cue} {ws : List Str} (S : SoFar cs) (h : cueIn cs ws = some cs') : SoFar cs' ∧ cs' ≠ [] := by
  unfold cueIn at h
  split at h
  · rename_i a n
    split at h
    · rename_i q
      simp only [Bool.and_eq_true, Bool.not_eq_true', decide_eq_true_eq] at q
      obtain ⟨q1, q2, q3, q4⟩ := q
      obtain rfl := Option.some.inj h
      refine ⟨⟨fun c hc => ?_, ?_, ?_, fun c hc => ?_⟩, by simp⟩
      · rcases List.mem_append.mp hc with hc | hc
        · exact S.w c hc
        · rw [List.mem_singleton.mp hc]
          exact ⟨q1, Nat.zero_le _, Nat.zero_le _, fun m hm => (by cases hm), fun m hm => (by cases hm), List.nodup_nil⟩
      · have := S.len
        rw [List.length_append]
        simp
        omega
      · rw [List.map_append, List.nodup_append]
        refine ⟨S.nd, by simp, fun a ha b hb e => ?_⟩
        rw [List.map_cons, List.map_nil, List.mem_singleton] at hb
        rw [e, hb] at ha
        exact q4 ha
      · rw [List.dropLast_concat] at hc
        cases e : cs.getLast? with
        | none =>
          rw [List.getLast?_eq_none_iff.mp e] at hc
          cases hc
        | some d =>
          rw [last_split e] at hc
          rcases List.mem_append.mp hc with hc | hc
          · exact S.shut c hc
          · rw [List.mem_singleton.mp hc]
            unfold lastOpen at q2
            rw [e] at q2
            have q5 : d.moves.isEmpty = false := q2
            intro z
            rw [z] at q5
            cases q5
    · cases h
  · cases h
theorem set_last {cs : List Cue} {c d : Cue} (S : SoFar cs) (e : cs.getLast? = some c) (hn : d.name = c.name) (hw : d.W) : SoFar (cs.dropLast ++ [d]) ∧ cs.dropLast ++ [d] ≠ [] := by
  have es := last_split e
  have hl : cs.length = cs.dropLast.length + 1 := by
    have := congrArg List.length es
    rw [List.length_append] at this
    simpa using this
  refine ⟨⟨fun a ha => ?_, ?_, ?_, fun a ha => ?_⟩, by simp⟩
  · rcases List.mem_append.mp ha with ha | ha
    · exact S.w a (List.dropLast_subset _ ha)
    · rw [List.mem_singleton.mp ha]
      exact hw
  · have := S.len
    rw [List.length_append]
    simp only [List.length_cons, List.length_nil]
    omega
  · have := S.nd
    rw [es, List.map_append] at this
    rw [List.map_append]
    show ((cs.dropLast.map (·.name)) ++ [d.name]).Nodup
    rw [hn]
    exact this
  · rw [List.dropLast_concat] at ha
    exact S.shut a ha
theorem last_mem {cs : List Cue} {c : Cue} (e : cs.getLast? = some c) : c ∈ cs := List.mem_of_getLast? e
theorem moveIn_ok {cs cs' : List Cue} {ws : List Str} (S : SoFar cs) (h : moveIn cs ws = some cs') : SoFar cs' ∧ cs' ≠ [] := by
  unfold moveIn at h
  split at h
  · rename_i a n g t c e
    split at h
    · rename_i q
      simp only [Bool.and_eq_true, decide_eq_true_eq] at q
      obtain ⟨q1, q2, q3, q4⟩ := q
      obtain rfl := Option.some.inj h
      have W := S.w c (last_mem e)
      refine set_last (c := c) S e rfl ?_
      refine ⟨W.n, ?_, W.fl, fun m hm => ?_, W.f, ?_⟩
      · have := W.ml
        show (c.moves ++ [_]).length ≤ 6
        rw [List.length_append]
        simp only [List.length_cons, List.length_nil]
        omega
      · rcases List.mem_append.mp hm with hm | hm
        · exact W.m m hm
        · rw [List.mem_singleton.mp hm]
          have q5 := q1
          unfold mvOk at q5
          obtain ⟨_, q6⟩ := Bool.and_eq_true_iff.mp q5
          obtain ⟨q7, q8⟩ := Bool.and_eq_true_iff.mp q6
          obtain ⟨i, ei⟩ := whole_some q7
          obtain ⟨j, ej⟩ := whole_some q8
          rw [ei, ej] at q1 ⊢
          exact q1
      · show ((c.moves ++ [(n, (numOf g).getD 0, (numOf t).getD 0)]).map (·.1)).Nodup
        rw [List.map_append, List.nodup_append]
        refine ⟨W.nd, by simp, fun x hx y hy exy => ?_⟩
        rw [List.map_cons, List.map_nil, List.mem_singleton] at hy
        rw [exy, hy] at hx
        exact q4 hx
    · cases h
  · cases h
theorem thenIn_ok {cs cs' : List Cue} {ws : List Str} (S : SoFar cs) (h : thenIn cs ws = some cs') : SoFar cs' ∧ cs' ≠ [] := by
  unfold thenIn at h
  split at h
  · rename_i a n t c e
    split at h
    · rename_i q
      simp only [Bool.and_eq_true, decide_eq_true_eq] at q
      obtain ⟨q1, q2, q3⟩ := q
      obtain rfl := Option.some.inj h
      have W := S.w c (last_mem e)
      refine set_last (c := c) S e rfl ?_
      refine ⟨W.n, W.ml, ?_, W.m, fun m hm => ?_, W.nd⟩
      · have := W.fl
        show (c.fols ++ [_]).length ≤ 3
        rw [List.length_append]
        simp only [List.length_cons, List.length_nil]
        omega
      · rcases List.mem_append.mp hm with hm | hm
        · exact W.f m hm
        · rw [List.mem_singleton.mp hm]
          have q5 := q2
          unfold foOk at q5
          obtain ⟨_, q6⟩ := Bool.and_eq_true_iff.mp q5
          obtain ⟨i, ei⟩ := whole_some q6
          rw [ei] at q2 ⊢
          exact q2
    · cases h
  · cases h
theorem rowIn_ok {cs cs' : List Cue} {ws : List Str} (S : SoFar cs) (h : rowIn cs ws = some cs') : SoFar cs' ∧ cs' ≠ [] := by
  unfold rowIn at h
  split at h
  · cases h
  · split at h
    · exact cueIn_ok S h
    · split at h
      · exact moveIn_ok S h
      · split at h
        · exact thenIn_ok S h
        · cases h
/-! ### a row writes itself back -/
theorem num_word {x : Str} {i : Int} (h : numOf x = some i) : numS i = x := by
  cases e : okNum x with
  | false =>
    rw [num_none e] at h
    cases h
  | true =>
    obtain ⟨n, n1, _, n3, _⟩ := num_back e
    rw [n1] at h
    rw [← Option.some.inj h]
    exact n3
theorem cueIn_back {cs cs' : List Cue} {v : Str} {r : List Str} (hv : v = sCue) (h : cueIn cs (v :: r) = some cs') : allRows cs' = allRows cs ++ [Txt.join sBl (v :: r)] := by
  unfold cueIn at h
  split at h
  · rename_i a n eq
    obtain ⟨rfl, rfl⟩ := List.cons.inj eq
    split at h
    · obtain rfl := Option.some.inj h
      rw [allRows_snoc]
      congr 1
      show [cueRow ⟨n, [], []⟩] = _
      congr 1
      refine ext_tl ?_
      rw [join_eq, tl_join]
      unfold cueRow
      rw [tl_append, cueB_tl]
      show _ = tl v ++ (tl sBl ++ tl n)
      rw [hv, cue_tl, bl_tl] <;> rfl
    · cases h
  · cases h
theorem rows_last {cs : List Cue} {c d : Cue} {r : Str} (e : cs.getLast? = some c) (h : cueRows d = cueRows c ++ [r]) : allRows (cs.dropLast ++ [d]) = allRows cs ++ [r] := by
  have es := last_split e
  have e2 : allRows cs = allRows cs.dropLast ++ cueRows c := by
    have z := congrArg allRows es
    rw [allRows_snoc] at z
    exact z
  rw [allRows_snoc, h, e2, List.append_assoc]
theorem moveIn_back {cs cs' : List Cue} {v : Str} {r : List Str} (hv : v = sMove) (h : moveIn cs (v :: r) = some cs') : allRows cs' = allRows cs ++ [Txt.join sBl (v :: r)] := by
  unfold moveIn at h
  split at h
  · rename_i a n g t c eq e
    obtain ⟨rfl, rfl⟩ := List.cons.inj eq
    split at h
    · rename_i q
      simp only [Bool.and_eq_true, decide_eq_true_eq] at q
      obtain ⟨q1, q2, q3, q4⟩ := q
      obtain rfl := Option.some.inj h
      refine rows_last e ?_
      unfold mvOk at q1
      obtain ⟨_, q6⟩ := Bool.and_eq_true_iff.mp q1
      obtain ⟨q7, q8⟩ := Bool.and_eq_true_iff.mp q6
      obtain ⟨i, ei⟩ := whole_some q7
      obtain ⟨j, ej⟩ := whole_some q8
      have hf : c.fols = [] := List.isEmpty_iff.mp q2
      unfold cueRows
      show cueRow c :: ((c.moves ++ [_]).map moveRow ++ c.fols.map thenRow) = cueRow c :: (c.moves.map moveRow ++ c.fols.map thenRow) ++ [_]
      rw [hf, List.map_nil, List.append_nil, List.append_nil, List.map_append]
      show cueRow c :: (c.moves.map moveRow ++ [moveRow _]) = cueRow c :: (c.moves.map moveRow ++ [_])
      congr 2
      congr 1
      refine ext_tl ?_
      rw [join_eq, tl_join, ei, ej]
      unfold moveRow
      show tl (Str.ofString "move " ++ n ++ sBl ++ numS i ++ sBl ++ numS j) = tl v ++ (tl sBl ++ (tl n ++ (tl sBl ++ (tl g ++ (tl sBl ++ tl t)))))
      rw [num_word ei, num_word ej, tl_append, tl_append, tl_append, tl_append, tl_append, moveB_tl, hv, move_tl, bl_tl]
      simp
    · cases h
  · cases h
theorem thenIn_back {cs cs' : List Cue} {v : Str} {r : List Str} (hv : v = sThen) (h : thenIn cs (v :: r) = some cs') : allRows cs' = allRows cs ++ [Txt.join sBl (v :: r)] := by
  unfold thenIn at h
  split at h
  · rename_i a n t c eq e
    obtain ⟨rfl, rfl⟩ := List.cons.inj eq
    split at h
    · rename_i q
      simp only [Bool.and_eq_true, decide_eq_true_eq] at q
      obtain ⟨q1, q2, q3⟩ := q
      obtain rfl := Option.some.inj h
      refine rows_last e ?_
      unfold foOk at q2
      obtain ⟨_, q6⟩ := Bool.and_eq_true_iff.mp q2
      obtain ⟨i, ei⟩ := whole_some q6
      unfold cueRows
      show cueRow c :: (c.moves.map moveRow ++ (c.fols ++ [_]).map thenRow) = cueRow c :: (c.moves.map moveRow ++ c.fols.map thenRow) ++ [_]
      rw [List.map_append]
      show cueRow c :: (c.moves.map moveRow ++ (c.fols.map thenRow ++ [thenRow _])) = cueRow c :: (c.moves.map moveRow ++ c.fols.map thenRow ++ [_])
      rw [List.append_assoc]
      congr 4
      refine ext_tl ?_
      rw [join_eq, tl_join, ei]
      unfold thenRow
      show tl (Str.ofString "then " ++ n ++ sBl ++ numS i) = tl v ++ (tl sBl ++ (tl n ++ (tl sBl ++ tl t)))
      rw [num_word ei, tl_append, tl_append, tl_append, thenB_tl, hv, then_tl, bl_tl]
      simp
    · cases h
  · cases h
theorem rowIn_back {cs cs' : List Cue} {r : Str} (h : rowIn cs (Txt.split r sBl) = some cs') : allRows cs' = allRows cs ++ [r] := by
  have j := join_split (y := sBl) bl_tl (by decide) r
  unfold rowIn at h
  split at h
  · cases h
  · rename_i v t eq
    rw [eq] at j
    rw [← j]
    split at h
    · rename_i hv
      rw [eq] at h
      exact cueIn_back hv h
    · split at h
      · rename_i hv
        rw [eq] at h
        exact moveIn_back hv h
      · split at h
        · rename_i hv
          rw [eq] at h
          exact thenIn_back hv h
        · cases h
theorem rowsIn_ok : ∀ {rs : List Str} {cs cs' : List Cue} {k : Nat}, SoFar cs → rowsIn cs rs k = .inr cs' → SoFar cs' ∧ allRows cs' = allRows cs ++ rs ∧ (rs ≠ [] → cs' ≠ [])
  | [], cs, cs', k, S, h => by
    have e : cs = cs' := by
      have h' : (Sum.inr cs : Sum Nat (List Cue)) = .inr cs' := h
      injection h'
    rw [← e]
    exact ⟨S, (List.append_nil _).symm, fun z => absurd rfl z⟩
  | r :: rs, cs, cs', k, S, h => by
    have h' : (match rowIn cs (Txt.split r sBl) with
      | none => Sum.inl (k + 1)
      | some cs' => rowsIn cs' rs (k + 1)) = .inr cs' := h
    cases e : rowIn cs (Txt.split r sBl) with
    | none =>
      rw [e] at h'
      cases h'
    | some c1 =>
      rw [e] at h'
      obtain ⟨S1, n1⟩ := rowIn_ok S e
      obtain ⟨S2, b2, n2⟩ := rowsIn_ok S1 h'
      refine ⟨S2, ?_, fun _ => ?_⟩
      · rw [b2, rowIn_back e, List.append_assoc] <;> rfl
      · by_cases hr : rs = []
        · subst hr
          have e3 : c1 = cs' := by
            have h3 : (Sum.inr c1 : Sum Nat (List Cue)) = .inr cs' := h'
            injection h3
          rw [← e3]
          exact n1
        · exact n2 hr
/-- what a sheet asks -/
structure SheetOk (cs : List Cue) : Prop where
  w : ∀ c ∈ cs, c.W
  m : ∀ c ∈ cs, c.moves ≠ []
  len : 1 ≤ cs.length ∧ cs.length ≤ 12
  nd : (cs.map (·.name)).Nodup
theorem readOf_ok {x : Str} {cs : List Cue} (h : readOf x = .inr cs) : SheetOk cs ∧ sheetText cs = x := by
  unfold readOf at h
  cases e : rowsIn [] (Txt.split x sNl) 0 with
  | inl k =>
    rw [e] at h
    cases h
  | inr c1 =>
    rw [e] at h
    have h1 : (if lastOpen c1 = true then (Sum.inl ((Txt.split x sNl).length + 1) : Sum Nat (List Cue)) else .inr c1) = .inr cs := h
    obtain ⟨S, b, n⟩ := rowsIn_ok SoFar.nil e
    by_cases hl : lastOpen c1 = true
    · rw [if_pos hl] at h1
      cases h1
    · rw [if_neg hl] at h1
      injection h1 with h1
      subst h1
      have hne := n (split_ne nl_tl (by decide) x)
      refine ⟨⟨S.w, fun c hc => ?_, ⟨?_, S.len⟩, S.nd⟩, ?_⟩
      · cases el : c1.getLast? with
        | none => exact absurd (List.getLast?_eq_none_iff.mp el) hne
        | some d =>
          rw [last_split el] at hc
          rcases List.mem_append.mp hc with hc | hc
          · exact S.shut c hc
          · rw [List.mem_singleton.mp hc]
            intro z
            refine hl ?_
            unfold lastOpen
            rw [el]
            show d.moves.isEmpty = true
            rw [z] <;> rfl
      · cases c1 with
        | nil => exact absurd rfl hne
        | cons a r => exact Nat.succ_le_succ (Nat.zero_le _)
      · unfold sheetText
        rw [b]
        exact join_split nl_tl (by decide) x
end Fw

/-! ==== FwP ==== -/
set_option Elab.async false
set_option linter.all false
set_option maxRecDepth 100000
set_option maxHeartbeats 4000000
/-! how long the rows of cues are -/
namespace Fw
open PySem PySem.Spec PyProof.Rows L2 TL
theorem numL_len {n : Nat} (h : n ≤ 1000000000) : (numL n).length ≤ 10 := by
  unfold numL
  rw [List.length_map]
  exact digits10_le (by decide) (Nat.lt_of_le_of_lt h (by decide))
theorem numS_len {i : Int} (h1 : -1000000000 ≤ i) (h2 : i ≤ 1000000000) : (numS i).length ≤ 11 := by
  cases i with
  | ofNat m =>
    have e : tl (numS (Int.ofNat m)) = numL m := tl_num m
    rw [len_tl, e]
    have h3 : ((m : Nat) : Int) ≤ 1000000000 := h2
    have := numL_len (n := m) (by omega)
    omega
  | negSucc m =>
    have e : tl (numS (Int.negSucc m)) = 45 :: numL (m + 1) := neg_tl m
    rw [len_tl, e, List.length_cons]
    have h3 : -1000000000 ≤ -((m : Nat) : Int) - 1 := by rw [Int.negSucc_eq] at h1; omega
    have := numL_len (n := m + 1) (by omega)
    omega
theorem log_ok {i : Int} (h1 : -1000000000 ≤ i) (h2 : i ≤ 1000000000) : i.natAbs.log2 < 1920 := by
  have h : i.natAbs < 2 ^ 31 := by
    have : (2 : Nat) ^ 31 = 2147483648 := by decide
    omega
  have q : i.natAbs.log2 < 31 := by
    by_cases z : i.natAbs = 0
    · rw [z]
      decide
    · exact (Nat.log2_lt z).mpr h
  omega
theorem moveW_len : (Str.ofString "move ").length = 5 := by rw [len_tl, moveB_tl] <;> rfl
theorem thenW_len : (Str.ofString "then ").length = 5 := by rw [len_tl, thenB_tl] <;> rfl
theorem cueW_len : (Str.ofString "cue ").length = 4 := by rw [len_tl, cueB_tl] <;> rfl
def mvSm (m : Str × Int × Int) : Prop := m.1.length ≤ 8 ∧ (-1000000000 ≤ m.2.1 ∧ m.2.1 ≤ 1000000000) ∧ (0 ≤ m.2.2 ∧ m.2.2 ≤ 50)
def foSm (f : Str × Int) : Prop := f.1.length ≤ 8 ∧ (0 ≤ f.2 ∧ f.2 ≤ 50)
theorem moveRow_len {m : Str × Int × Int} (h : mvSm m) : (moveRow m).length ≤ 40 := by
  obtain ⟨h1, h2, h3⟩ := h
  have a := numS_len h2.1 h2.2
  have b := numS_len (i := m.2.2) (by omega) (by omega)
  unfold moveRow
  rw [PySem.Str.length_append, PySem.Str.length_append, PySem.Str.length_append, PySem.Str.length_append, PySem.Str.length_append, bl_len, moveW_len]
  omega
theorem thenRow_len {m : Str × Int} (h : foSm m) : (thenRow m).length ≤ 40 := by
  obtain ⟨h1, h3⟩ := h
  have b := numS_len (i := m.2) (by omega) (by omega)
  unfold thenRow
  rw [PySem.Str.length_append, PySem.Str.length_append, PySem.Str.length_append, bl_len, thenW_len]
  omega
theorem cueRow_len {c : Cue} (h : c.Sm) : (cueRow c).length ≤ 40 := by
  have := h.n
  unfold cueRow
  rw [PySem.Str.length_append, cueW_len]
  omega
theorem lens_le {k : Nat} {xs : List Str} (h : ∀ x ∈ xs, x.length ≤ k) : lens xs ≤ xs.length * (k + 1) := by
  induction xs with
  | nil => exact Nat.zero_le _
  | cons a r ih =>
    rw [lens_cons, List.length_cons, Nat.add_mul, Nat.one_mul]
    have h1 := h a List.mem_cons_self
    have h2 := ih fun x hx => h x (List.mem_cons_of_mem _ hx)
    omega
theorem cueRows_lens {c : Cue} (h : c.Sm) : lens (cueRows c) ≤ 492 ∧ (cueRows c).length ≤ 12 := by
  have hl : (cueRows c).length ≤ 12 := by
    unfold cueRows
    rw [List.length_cons, List.length_append, List.length_map, List.length_map]
    have := h.ml
    have := h.fl
    omega
  refine ⟨?_, hl⟩
  have q : lens (cueRows c) ≤ (cueRows c).length * 41 := lens_le fun x hx => by
    unfold cueRows at hx
    rcases List.mem_cons.mp hx with e | hx
    · rw [e]
      exact cueRow_len h
    · rcases List.mem_append.mp hx with hx | hx
      · obtain ⟨m, hm, rfl⟩ := List.mem_map.mp hx
        exact moveRow_len (h.m m hm)
      · obtain ⟨m, hm, rfl⟩ := List.mem_map.mp hx
        exact thenRow_len (h.f m hm)
  omega
theorem allRows_cons (c : Cue) (cs : List Cue) : allRows (c :: cs) = cueRows c ++ allRows cs := by
  unfold allRows
  rw [List.flatMap_cons]
theorem allRows_lens : ∀ {cs : List Cue}, (∀ c ∈ cs, c.Sm) → lens (allRows cs) ≤ cs.length * 492 ∧ (allRows cs).length ≤ cs.length * 12
  | [], _ => ⟨Nat.zero_le _, Nat.zero_le _⟩
  | c :: cs, h => by
    obtain ⟨h1, h2⟩ := cueRows_lens (h c List.mem_cons_self)
    obtain ⟨h3, h4⟩ := allRows_lens (cs := cs) fun d hd => h d (List.mem_cons_of_mem _ hd)
    rw [allRows_cons, lens_app, List.length_append, List.length_cons, Nat.add_mul, Nat.add_mul]
    omega
theorem sheetText_len {cs : List Cue} (h : ∀ c ∈ cs, c.Sm) : (sheetText cs).length ≤ cs.length * 492 := by
  unfold sheetText
  have h1 := join_le nl_tl (allRows cs)
  have h2 := (allRows_lens h).1
  omega
/-- what join asks -/
theorem join_room {y : Str} {xs : List Str} {n : Nat} (hy : y.length ≤ 1) (h : lens xs ≤ n) (hn : n ≤ 16777216) : (xs.map (·.length)).sum + xs.length * y.length ≤ 16777216 := by
  have e : (xs.map (·.length)).sum + xs.length = lens xs := by
    clear h
    induction xs with
    | nil => rfl
    | cons a r ih =>
      rw [lens_cons, List.map_cons, List.sum_cons, List.length_cons]
      omega
  have : xs.length * y.length ≤ xs.length * 1 := Nat.mul_le_mul_left _ hy
  omega
theorem allRows_take {cs : List Cue} (h : ∀ c ∈ cs, c.Sm) (i : Nat) : (allRows (cs.take i)).length ≤ cs.length * 12 := by
  have h1 := (allRows_lens (cs := cs.take i) fun c hc => h c (List.mem_of_mem_take hc)).2
  have h2 : (cs.take i).length * 12 ≤ cs.length * 12 := Nat.mul_le_mul_right _ (by rw [List.length_take]; exact Nat.min_le_right _ _)
  omega
end Fw

/-! ==== FwO ==== -/
set_option Elab.async false
set_option linter.all false
set_option maxRecDepth 100000
set_option maxHeartbeats 4000000
/-! cues that a reader owns: nothing of them stood in B -/
namespace Fw
open PySem PySem.Spec PyProof.Rows L2 TL
def foot (es : List Trip) : List Addr := es.flatMap fun e => [e.2.1, e.2.2]
theorem foot_app (a b : List Trip) : foot (a ++ b) = foot a ++ foot b := by
  unfold foot
  rw [List.flatMap_append]
theorem foot_one (e : Trip) : foot [e] = [e.2.1, e.2.2] := rfl
theorem foot_mem {es : List Trip} {e : Trip} (h : e ∈ es) : e.2.1 ∈ foot es ∧ e.2.2 ∈ foot es := by
  unfold foot
  exact ⟨List.mem_flatMap.mpr ⟨e, h, List.mem_cons_self⟩, List.mem_flatMap.mpr ⟨e, h, List.mem_cons_of_mem _ List.mem_cons_self⟩⟩
structure Own (B H : Hp) (l : Addr) (es : List Trip) (cs : List Cue) : Prop where
  same : Same B H
  at_ : CuesAt H l es cs
  nl : B l = none
  ne : ∀ a ∈ foot es, B a = none
  nd : (foot es).Nodup
  nm : l ∉ foot es
theorem Own.next {B H H' : Hp} {l : Addr} {es : List Trip} {cs : List Cue} (O : Own B H l es cs) (s : Same H H') : Own B H' l es cs := ⟨O.same.trans s, O.at_.same s, O.nl, O.ne, O.nd, O.nm⟩
/-- the lists of the cues stand -/
theorem Own.lsts {B H : Hp} {l : Addr} {es : List Trip} {cs : List Cue} (O : Own B H l es cs) : ∀ a ∈ foot es, ∃ xs, H a = some (.lst xs) := fun a ha => by
  unfold foot at ha
  obtain ⟨e, he, hm⟩ := List.mem_flatMap.mp ha
  obtain ⟨c, _, hc⟩ := Paired.memL O.at_.2 he
  rcases List.mem_cons.mp hm with z | hm
  · obtain ⟨ts, h1, _⟩ := hc.2.1
    rw [z]
    exact ⟨_, h1⟩
  · obtain ⟨ts, h1, _⟩ := hc.2.2
    rw [List.mem_singleton.mp hm]
    exact ⟨_, h1⟩
theorem Own.fresh {B H : Hp} {l : Addr} {es : List Trip} {cs : List Cue} (O : Own B H l es cs) {p : Addr} (hp : H p = none) : p ∉ foot es := fun hm => by
  obtain ⟨xs, e⟩ := O.lsts p hm
  rw [hp] at e
  cases e
/-- a cue is put behind them -/
theorem Own.push {B H : Hp} {l : Addr} {es : List Trip} {cs : List Cue} (O : Own B H l es cs) {e : Trip} {c : Cue} {H2 : Hp} (s : Same H H2) (n1 : H e.2.1 = none) (n2 : H e.2.2 = none) (n12 : e.2.1 ≠ e.2.2) (hc : CueAt H2 e c) :
    Own B (upd H2 l (.lst ((es.map fun e => V.ref e.1) ++ [V.ref e.1]))) l (es ++ [e]) (cs ++ [c]) := by
  have hl := s _ _ O.at_.1
  have f1 := O.fresh n1
  have f2 := O.fresh n2
  have l1 : e.2.1 ≠ l := fun z => by
    rw [z, O.at_.1] at n1
    cases n1
  have l2 : e.2.2 ≠ l := fun z => by
    rw [z, O.at_.1] at n2
    cases n2
  refine ⟨fun b o h => ?_, ⟨?_, ?_⟩, O.nl, fun a ha => ?_, ?_, ?_⟩
  · rw [upd_ne (ne_of_none h O.nl)]
    exact s _ _ (O.same b o h)
  · rw [upd_same, List.map_append] <;> rfl
  · refine Paired.app (Paired.impM O.at_.2 fun a b ha hb q => ?_) (.cons ?_ .nil)
    · obtain ⟨m1, m2⟩ := foot_mem ha
      exact (q.same s).upd hl (fun z => O.nm (z ▸ m1)) (fun z => O.nm (z ▸ m2))
    · exact hc.upd hl l1 l2
  · rw [foot_app, foot_one] at ha
    rcases List.mem_append.mp ha with ha | ha
    · exact O.ne a ha
    · rcases List.mem_cons.mp ha with z | ha
      · rw [z]
        exact O.same.free n1
      · rw [List.mem_singleton.mp ha]
        exact O.same.free n2
  · rw [foot_app, foot_one, List.nodup_append]
    refine ⟨O.nd, by simp [n12], fun a ha b hb z => ?_⟩
    rw [z] at ha
    rcases List.mem_cons.mp hb with y | hb
    · exact f1 (y ▸ ha)
    · exact f2 (List.mem_singleton.mp hb ▸ ha)
  · rw [foot_app, foot_one]
    intro hm
    rcases List.mem_append.mp hm with hm | hm
    · exact O.nm hm
    · rcases List.mem_cons.mp hm with z | hm
      · exact l1 z.symm
      · exact l2 (List.mem_singleton.mp hm).symm
theorem paired_split {α β : Type} {F : α → β → Prop} {es : List α} {cs : List β} {c : β} (h : Paired F es cs) (e : cs.getLast? = some c) : ∃ es0 x, es = es0 ++ [x] ∧ Paired F es0 cs.dropLast ∧ F x c := by
  obtain ⟨cs0, rfl⟩ := List.getLast?_eq_some_iff.mp e
  rw [List.dropLast_concat]
  clear e
  induction cs0 generalizing es with
  | nil =>
    cases h with
    | cons r t =>
      cases t
      exact ⟨[], _, rfl, .nil, r⟩
  | cons a r ih =>
    cases h with
    | cons q t =>
      obtain ⟨es0, x, rfl, p, f⟩ := ih t
      exact ⟨_ :: es0, x, rfl, .cons q p, f⟩
/-- the last one's list of moves, of followers, grows -/
theorem Own.grow {B H : Hp} {l p : Addr} {es0 : List Trip} {x : Trip} {cs : List Cue} {c d : Cue} {xs ys : List V} (O : Own B H l (es0 ++ [x]) cs) (e : cs.getLast? = some c) (hp : p = x.2.1 ∨ p = x.2.2) (hpx : H p = some (.lst xs)) (hd : CueAt (upd H p (.lst ys)) x d) :
    Own B (upd H p (.lst ys)) l (es0 ++ [x]) (cs.dropLast ++ [d]) := by
  obtain ⟨es1, x1, ee, pp, fx⟩ := paired_split O.at_.2 e
  obtain ⟨e1, e2⟩ := List.append_inj' ee rfl
  have e3 : x = x1 := by
    injection e2
  subst e1 e3
  have hm : p ∈ foot (es0 ++ [x]) := by
    rw [foot_app, foot_one]
    rcases hp with z | z
    · rw [z]
      simp
    · rw [z]
      simp
  have nlp : l ≠ p := fun z => O.nm (z ▸ hm)
  refine ⟨fun b o h => ?_, ⟨?_, ?_⟩, O.nl, O.ne, O.nd, O.nm⟩
  · rw [upd_ne (ne_of_none h (O.ne p hm))]
    exact O.same b o h
  · rw [upd_ne nlp]
    exact O.at_.1
  · refine Paired.app (Paired.impM pp fun a b ha hb q => ?_) (.cons hd .nil)
    have nd := O.nd
    rw [foot_app, foot_one, List.nodup_append] at nd
    obtain ⟨m1, m2⟩ := foot_mem ha
    have pm : p ∈ ([x.2.1, x.2.2] : List Addr) := by
      rcases hp with z | z
      · rw [z]
        simp
      · rw [z]
        simp
    exact q.upd hpx (nd.2.2 _ m1 p pm) (nd.2.2 _ m2 p pm)
theorem MvsAt.snoc {H : Hp} {a t : Addr} {ms : List (Str × Int × Int)} {m : Str × Int × Int} {ts : List Addr} (h1 : H a = some (.lst (ts.map V.ref))) (h2 : Paired (MvAt H) ts ms) (h : MvAt H t m) : MvsAt (L2.upd H a (.lst (ts.map V.ref ++ [V.ref t]))) a (ms ++ [m]) := by
  refine ⟨ts ++ [t], by rw [upd_same, List.map_append] <;> rfl, Paired.app (Paired.mapP h2 fun t' m' q => ?_) (.cons ?_ .nil)⟩
  · have q' : H t' = _ := q
    show L2.upd H a _ t' = _
    rw [upd_ne (ne_of q' h1 (by intro z; cases z))]
    exact q'
  · have q' : H t = _ := h
    show L2.upd H a _ t = _
    rw [upd_ne (ne_of q' h1 (by intro z; cases z))]
    exact q'
theorem FosAt.snoc {H : Hp} {a t : Addr} {ms : List (Str × Int)} {m : Str × Int} {ts : List Addr} (h1 : H a = some (.lst (ts.map V.ref))) (h2 : Paired (FoAt H) ts ms) (h : FoAt H t m) : FosAt (L2.upd H a (.lst (ts.map V.ref ++ [V.ref t]))) a (ms ++ [m]) := by
  refine ⟨ts ++ [t], by rw [upd_same, List.map_append] <;> rfl, Paired.app (Paired.mapP h2 fun t' m' q => ?_) (.cons ?_ .nil)⟩
  · have q' : H t' = _ := q
    show L2.upd H a _ t' = _
    rw [upd_ne (ne_of q' h1 (by intro z; cases z))]
    exact q'
  · have q' : H t = _ := h
    show L2.upd H a _ t = _
    rw [upd_ne (ne_of q' h1 (by intro z; cases z))]
    exact q'
/-! ### the first of each tuple of a list -/
theorem set_get {σ : L2.St} {i : Nat} (hi : i < σ.length) (x : Option V) : (σ.set i x)[i]? = some x := List.getElem?_set_self hi
theorem lc_first {K : PySem.W.Frag} {H1 : Hp} {D a : Addr} {ts : List Addr} {ns : List Str} {i : Nat} {σ : L2.St} {Qd : Hp → Prop} (ha : SqL K H1 a (ts.map V.ref)) (hp : Paired (fun t n => ∃ r, H1 t = some (.tup (.str n :: r))) ts ns) (hn : ts.length ≤ 1000000)
    (hD : H1 D = none) (hi : i < σ.length) (hd : ∀ H, Same H1 H → H D = some (.lst (ns.map V.str)) → Qd H) : LcGoal (Itl K a) (gName i) tYes (tOp (rIxT K) (tVar i) (tC (.int 0))) [i] σ H1 D Qd := by
  have hl := hp.length
  refine lc_f (walk_list (xs := ts.map V.ref)) (fun j => ns[j]?.map V.str) (by rw [List.length_map]; exact Nat.lt_of_le_of_lt hn (by decide)) hD (fun H s => s.seq ha) (fun j x H H' N N0 hj s1 hy kN _ => ?_) (fun H s1 eD => ?_)
  · obtain ⟨rfl, hx⟩ := hy
    rw [List.getElem?_map] at hx
    obtain ⟨t, ht, rfl⟩ := Option.map_eq_some_iff.mp hx
    obtain ⟨n, hnn, r, hr⟩ := Paired.get hp ht
    refine ⟨?_, yes_of ?_⟩
    · show ((wipe σ [i]).set i (some (.ref t))).set i none = wipe σ [i]
      show ((σ.set i none).set i (some (.ref t))).set i none = σ.set i none
      rw [List.set_set, List.set_set]
    · refine ⟨.ref t, ?_, t, _, 0, .str n, rfl, rfl, SqT.of (s1 _ _ hr), atI_nat (j := 0) rfl, kN _ _ ?_ (Same.refl _)⟩
      · exact set_get (by rw [wipe_length]; exact hi) _
      · rw [hnn]
        rfl
  · refine hd H s1 ?_
    rw [eD, List.length_map, hl, range_map]
/-- x in a list of texts -/
theorem inV_strs (x : Str) (ns : List Str) : inV (.str x) (ns.map V.str) = decide (x ∈ ns) := by
  unfold inV
  rw [List.any_map]
  induction ns with
  | nil => rfl
  | cons a r ih =>
    rw [List.any_cons, ih]
    by_cases h : a = x
    · subst h
      have e : (Function.comp (fun y => eqV y (.str a)) V.str) a = true := by
        show (a == a) = true
        exact beq_self_eq_true a
      rw [e, decide_eq_true List.mem_cons_self]
      rfl
    · have e : (Function.comp (fun y => eqV y (.str x)) V.str) a = false := by
        show (a == x) = false
        exact beq_eq_false_iff_ne.mpr h
      rw [e, Bool.false_or]
      exact decide_eq_decide.mpr ⟨fun z => List.mem_cons_of_mem _ z, fun z => by
        rcases List.mem_cons.mp z with z | z
        · exact absurd z.symm h
        · exact z⟩
theorem flat_strs (ns : List Str) : (ns.map V.str).all flatV = true := by
  rw [List.all_map]
  exact List.all_eq_true.mpr fun _ _ => rfl
theorem CuesAt.firsts {H : Hp} {l : Addr} {es : List Trip} {cs : List Cue} (C : CuesAt H l es cs) : Paired (fun t n => ∃ r, H t = some (.tup (.str n :: r))) (es.map (·.1)) (cs.map (·.name)) := by
  have all : ∀ {es : List Trip} {cs : List Cue}, Paired (CueAt H) es cs → Paired (fun t n => ∃ r, H t = some (.tup (.str n :: r))) (es.map (·.1)) (cs.map (·.name)) := by
    intro es cs p
    induction p with
    | nil => exact .nil
    | cons r _ ih => exact .cons ⟨_, r.1⟩ ih
  exact all C.2
theorem mvs_firsts {H : Hp} : ∀ {ts : List Addr} {ms : List (Str × Int × Int)}, Paired (MvAt H) ts ms → Paired (fun t n => ∃ r, H t = some (.tup (.str n :: r))) ts (ms.map (·.1))
  | _, _, .nil => .nil
  | _, _, .cons r t => .cons ⟨_, r⟩ (mvs_firsts t)
end Fw

/-! ==== FwW2 ==== -/
set_option Elab.async false
set_option linter.all false
set_option maxRecDepth 100000
set_option maxHeartbeats 4000000
/-! walks: the reader -/
namespace Fw
open PySem PySem.Spec PyProof.Rows L2 TL
section
variable {P : Program} {w : World} {K : PySem.W.Frag} {mg : Str → Option Value} {base : Heap}
def rdF (l : Addr) : List (Str × V) := putF "found" (.ref l) []
theorem rdF_found (l : Addr) : (rdF l).lookup ("found" : Str) = some (.ref l) := by
  unfold rdF
  rw [lookup_putF, if_pos rfl]
theorem rdF_no (l : Addr) {m : Str} (h : ¬ m = "found") : (rdF l).lookup m = none := by
  unfold rdF
  rw [lookup_putF, if_neg h]
  all_goals rfl
def RdAt (K : PySem.W.Frag) (H : Hp) (p l : Addr) : Prop := ∃ dx, H p = some (.ins (He.ga K "SheetReader") dx (rdF l))
theorem RdAt.same {H H' : Hp} {p l : Addr} (s : Same H H') (h : RdAt K H p l) : RdAt K H' p l := by
  obtain ⟨dx, h⟩ := h
  exact ⟨dx, s _ _ h⟩
/-- a list is changed -/
theorem RdAt.upd {H : Hp} {p l q : Addr} {xs ys : List V} (h : RdAt K H p l) (hq : H q = some (.lst xs)) : RdAt K (L2.upd H q (.lst ys)) p l := by
  obtain ⟨dx, h⟩ := h
  exact ⟨dx, by rw [upd_ne (ne_of h hq (by intro z; cases z))]; exact h⟩
def spRInit (K : PySem.W.Frag) : Sp := fun vs H Q _ => ∃ (p dx : Addr), vs = [.ref p] ∧ H p = some (.ins (He.ga K "SheetReader") dx []) ∧
  ∀ (l : Addr) (H' : Hp), H l = none → RdAt K H' p l → H' l = some (.lst []) → (∀ b o, H b = some o → b ≠ p → H' b = some o) → Q .non H'
abbrev nn_SheetReader_init : List Str := ["self"]
theorem sc_SheetReader_init : FnScope nn_SheetReader_init ["self"] (defScope s_SheetReader_init) := ⟨rfl, rfl, rfl, by decide +kernel, rfl, by decide +kernel, by decide +kernel⟩
theorem ok_SheetReader_init (T : Tx K mg) : OkD P w K mg base CX0 1 ("SheetReader", some "__init__") ["self"] (spRInit K) := by
  refine OkD.mk T.f_SheetReader_init sc_SheetReader_init (fun _ _ _ _ _ _ us hl => match us, hl with | [_], _ => rfl) (fun vs H Q E h => ?_) (fun cdv A outer s H vs Q E hr h => ?_)
  · obtain ⟨p, dx, rfl, _⟩ := h
    rfl
  · obtain ⟨p, dx, rfl, hp, k⟩ := h
    refine ⟨_, (pss_one (ps_fld (pv 0) (pe_lst pa_nil) rfl)), ?_⟩
    refine ⟨Nat.zero_le _, fun l hl => ?_⟩
    have npl : p ≠ l := ne_of_none hp hl
    refine ⟨_, rfl, p, _, dx, [], rfl, by rw [upd_ne npl]; exact hp, T.cl_SheetReader, T.na_found, (by show 0 < 1000; decide), ?_⟩
    refine k l _ hl ⟨dx, upd_same⟩ (by rw [upd_ne npl.symm, upd_same]) fun b o e hb => ?_
    rw [upd_ne hb, upd_ne (ne_of_none e hl)]
    exact e
/-- the last cue wants a move -/
def spIsOpen (K : PySem.W.Frag) : Sp := fun vs H Q _ => ∃ (p l : Addr) (es : List Trip) (cs : List Cue), vs = [.ref p] ∧ RdAt K H p l ∧ CuesAt H l es cs ∧ (∀ c ∈ cs, c.W) ∧ ∀ H', Same H H' → Q (.bl (lastOpen cs)) H'
theorem fresh2r {H : Hp} {p q : Addr} {o : HO} (h1 : H p = none) (h2 : upd H p o q = none) : p ≠ q ∧ H q = none := by
  have n : q ≠ p := fun z => by
    rw [z, upd_same] at h2
    cases h2
  rw [upd_ne n] at h2
  exact ⟨n.symm, h2⟩
abbrev nn_SheetReader_is_open : List Str := ["self"]
theorem sc_SheetReader_is_open : FnScope nn_SheetReader_is_open ["self"] (defScope s_SheetReader_is_open) := ⟨rfl, rfl, rfl, by decide +kernel, rfl, by decide +kernel, by decide +kernel⟩
theorem ok_SheetReader_is_open (T : Tx K mg) : OkD P w K mg base CX0 1 ("SheetReader", some "is_open") ["self"] (spIsOpen K) := by
  refine OkD.mk T.f_SheetReader_is_open sc_SheetReader_is_open (fun _ _ _ _ _ _ us hl => match us, hl with | [_], _ => rfl) (fun vs H Q E h => ?_) (fun cdv A outer s H vs Q E hr h => ?_)
  · obtain ⟨p, l, es, cs, rfl, _⟩ := h
    rfl
  · obtain ⟨p, l, es, cs, rfl, R, C, W, k⟩ := h
    refine ⟨_, (pss_one (ps_ret (pe_and (pe_cmpR (op_neD hr.units) (pe_fld (pv 0) rfl) (pe_lst pa_nil) (by first | exact nomark _ | rfl)) (pe_one (pe_cmpR (op_eqD hr.units) (pe_ix ix_tup (pe_ix ix_list (pe_fld (pv 0) rfl) (pe_un un_neg pe_int) (fun _ _ => rfl)) pe_int (fun _ _ => rfl)) (pe_lst pa_nil) (by first | exact nomark _ | rfl)))))), ?_⟩
    have R0 := R
    obtain ⟨dx, hp⟩ := R0
    refine ⟨_, rfl, p, _, dx, _, _, rfl, hp, T.cl_SheetReader, T.na_found, rdF_found l, Nat.zero_le _, fun q hq => ?_⟩
    have s1 : Same H (upd H q (.lst [])) := same_new hq
    refine ⟨_, _, cuesAt_dp (C.same s1), .lst (SqL.of upd_same) .nil, cues_shaped W, rfl, _, rfl, ?_⟩
    unfold cuesD
    rw [eqv_empty]
    cases e : cs.getLast? with
    | none =>
      have ec := List.getLast?_eq_none_iff.mp e
      subst ec
      exact iteF (k _ s1)
    | some c =>
      obtain ⟨es0, x, ee, pp, fx⟩ := paired_split C.2 e
      have ne : (cs.map cueD).isEmpty = false := by
        cases cs with
        | nil => cases e
        | cons a r => rfl
      rw [ne]
      refine iteT ?_
      have fx1 := fx.same s1
      refine ⟨_, rfl, p, _, dx, _, _, rfl, s1 _ _ hp, T.cl_SheetReader, T.na_found, rdF_found l, 1, rfl, l, _, -1, .ref x.1, rfl, rfl, SqL.of (s1 _ _ C.1), ?_, x.1, _, 1, .ref x.2.1, rfl, rfl, SqT.of fx1.1, atI_nat (j := 1) rfl, Nat.zero_le _, fun q2 hq2 => ?_⟩
      · rw [ee, List.map_append]
        exact atI_last _ _
      · have s2 := s1.trans (same_new (o := .lst []) hq2)
        refine ⟨_, _, mvsAt_dp (fx.2.1.same s2), .lst (SqL.of upd_same) .nil, moves_shaped (W c (last_mem e)).m, rfl, ?_⟩
        have z := k _ s2
        unfold lastOpen at z
        rw [e] at z
        rw [eqv_empty, List.isEmpty_map]
        exact z
/-- the promise of the three ways to take a row, and of all together -/
def spTakes (K : PySem.W.Frag) (f : List Cue → List Str → Option (List Cue)) : Sp := fun vs H Q _ => ∃ (B : Hp) (p l wl : Addr) (es : List Trip) (cs : List Cue) (ws : List Str), vs = [.ref p, .ref wl] ∧ RdAt K H p l ∧ Own B H l es cs ∧ SoFar cs ∧
  SqL K H wl (ws.map V.str) ∧ (∀ x ∈ ws, x.length ≤ 1000000) ∧ ws ≠ [] ∧
  (∀ H', Same B H' → f cs ws = none → Q (.bl false) H') ∧ (∀ H' es' cs', Own B H' l es' cs' → RdAt K H' p l → f cs ws = some cs' → Q (.bl true) H')
theorem len_dec (ws : List Str) (n : Nat) : decide (V.int ((ws.map V.str).length : Nat) = V.int (n : Nat)) = decide (ws.length = n) := by
  rw [List.length_map]
  refine decide_eq_decide.mpr ⟨fun h => ?_, fun h => by rw [h]⟩
  injection h with h
  omega
theorem len_decV (xs : List V) (n : Nat) : decide (V.int (xs.length : Nat) = V.int (n : Nat)) = decide (xs.length = n) := by
  refine decide_eq_decide.mpr ⟨fun h => ?_, fun h => by rw [h]⟩
  injection h with h
  omega
theorem cueIn_not2 {cs : List Cue} {ws : List Str} (h : ws.length ≠ 2) : cueIn cs ws = none := by
  unfold cueIn
  split
  · exact absurd rfl h
  · rfl
theorem two_of {α : Type} {ws : List α} (h : ws.length = 2) : ∃ a b, ws = [a, b] := by
  match ws, h with
  | [a, b], _ => exact ⟨a, b, rfl⟩
theorem three_of {α : Type} {ws : List α} (h : ws.length = 3) : ∃ a b c, ws = [a, b, c] := by
  match ws, h with
  | [a, b, c], _ => exact ⟨a, b, c, rfl⟩
theorem four_of {α : Type} {ws : List α} (h : ws.length = 4) : ∃ a b c d, ws = [a, b, c, d] := by
  match ws, h with
  | [a, b, c, d], _ => exact ⟨a, b, c, d, rfl⟩
theorem cueIn_two (cs : List Cue) (v n : Str) : cueIn cs [v, n] = if (isName n && (!lastOpen cs && (decide (cs.length ≠ 12) && decide (n ∉ cs.map (·.name))))) = true then some (cs ++ [⟨n, [], []⟩]) else none := rfl
abbrev nn_SheetReader_takes_cue : List Str := ["self", "words", "cue"]
theorem sc_SheetReader_takes_cue : FnScope nn_SheetReader_takes_cue ["self", "words"] (defScope s_SheetReader_takes_cue) := ⟨rfl, rfl, rfl, by decide +kernel, rfl, by decide +kernel, by decide +kernel⟩
theorem ok_SheetReader_takes_cue (T : Tx K mg) : OkD P w K mg base CX0 2 ("SheetReader", some "takes_cue") ["self", "words"] (spTakes K cueIn) := by
  obtain ⟨fd_SheetReader_is_open, G_SheetReader_is_open, b_SheetReader_is_open, k_SheetReader_is_open⟩ := ok_SheetReader_is_open (P := P) (w := w) (base := base) T
  obtain ⟨fd_is_name, G_is_name, b_is_name, k_is_name⟩ := ok_is_name (P := P) (w := w) (base := base) T
  refine OkD.mk T.f_SheetReader_takes_cue sc_SheetReader_takes_cue (fun _ _ _ _ _ _ us hl => match us, hl with | [_, _], _ => rfl) (fun vs H Q E h => ?_) (fun cdv A outer s H vs Q E hr h => ?_)
  · obtain ⟨B, p, l, wl, es, cs, ws, rfl, _⟩ := h
    rfl
  · obtain ⟨B, p, l, wl, es, cs, ws, rfl, R, O, S, hw, hlen, hne, kF, kT⟩ := h
    have hr_SheetReader_is_open : Room 1 _ := hr.mono (by decide)
    have hr_is_name : Room 1 _ := hr.mono (by decide)
    refine ⟨_, (pss_cons (ps_if (PW.pt (pw_or (pt_cmpR op_ne (pe_callB call_len_seq (by rfl) T.b_len bv_len (pa_cons (pv 1) pa_nil)) pe_int (by first | exact nomark _ | rfl)) (pw_or (pt_not (pt_val (pe_call G_is_name hr_is_name (by rfl) T.g_is_name k_is_name b_is_name .nil pass0 (pa_cons (pe_ix ix_list (pv 1) pe_int (fun _ _ => rfl)) pa_nil)))) (pw_or (pt_val (pe_meth0 (pv 0) T.cl_SheetReader T.m_SheetReader_is_open G_SheetReader_is_open hr_SheetReader_is_open b_SheetReader_is_open .nil pass0)) (pw_or1 (pt_cmpR op_eq (pe_callB call_len_seq (by rfl) T.b_len bv_len (pa_cons (pe_fld (pv 0) rfl) pa_nil)) (pe_glob (v := .int 12) (by rfl) (T.c_MOST_CUES).choose_spec ⟨_, rfl⟩) (by first | exact nomark _ | rfl)))))))
        (pss_one (ps_ret pe_bl))
        pss_nil)
      (pss_cons (ps_if (pt_cmpR op_in_seq (pe_ix ix_list (pv 1) pe_int (fun _ _ => rfl)) (pe_lc (g := gName 2) (own := [("cue", 2)]) rfl sc_SheetReader_takes_cue.nd (pi_list (pe_fld (pv 0) rfl)) (blkOk_by (own := [("cue", 2)]) (N := nn_SheetReader_takes_cue) (sc := defScope s_SheetReader_takes_cue) (by decide +kernel)) (fun _ _ _ _ _ => (pg_name (i := 2) sc_SheetReader_takes_cue.nd rfl (Or.inl rfl))) (fun _ _ _ _ _ => pts_nil) (fun _ _ _ _ _ => (pe_ix (r := rIxT K) ix_tup (pv 2) pe_int (fun _ _ => rfl)))) (by first | exact nomark _ | rfl))
        (pss_one (ps_ret pe_bl))
        pss_nil)
      (pss_cons (ps_expr (pe_bm PySem.F.plainAttrs_list PySem.F.slot_list_append PySem.F.type_list_append mt_append (pe_fld (pv 0) rfl) (pa_cons (pe_tup (pa_cons (pe_ix ix_list (pv 1) pe_int (fun _ _ => rfl)) (pa_cons (pe_lst pa_nil) (pa_cons (pe_lst pa_nil) pa_nil)))) pa_nil)))
      (pss_one (ps_ret pe_bl))))), ?_⟩
    refine ⟨_, rfl, wl, _, rfl, .inl hw, rfl, _, rfl, ?_⟩
    rw [show V.int 2 = V.int ((2 : Nat) : Int) from rfl, len_dec]
    by_cases h2 : ws.length = 2
    · rw [decide_eq_true h2]
      refine iteF ?_
      obtain ⟨v, n, rfl⟩ := two_of h2
      rw [cueIn_two] at kF kT
      have hl := S.len
      refine ⟨_, rfl, wl, _, 1, .str n, rfl, rfl, hw, atI_nat (j := 1) rfl, n, rfl, hlen n (by simp), fun H1 s1 => ⟨_, rfl, ?_⟩⟩
      cases e1 : isName n with
      | false =>
        refine iteT (kF H1 (O.same.trans s1) ?_)
        rw [e1] <;> rfl
      | true =>
        refine iteF ?_
        obtain ⟨dx, hp⟩ := R.same s1
        have C1 := O.at_.same s1
        refine ⟨_, rfl, p, dx, _, rfl, hp, rdF_no l (by decide +kernel), p, l, es, cs, rfl, R.same s1, C1, S.w, fun H2 s2 => ⟨_, rfl, ?_⟩⟩
        have s12 := s1.trans s2
        cases e2 : lastOpen cs with
        | true =>
          refine iteT (kF H2 (O.same.trans s12) ?_)
          rw [e1, e2] <;> rfl
        | false =>
          refine iteF ?_
          have C2 := O.at_.same s12
          have hp2 := s2 _ _ hp
          refine ⟨_, rfl, p, _, dx, _, _, rfl, hp2, T.cl_SheetReader, T.na_found, rdF_found l, l, _, rfl, .inl (SqL.of C2.1), rfl, _, rfl, ?_⟩
          rw [show V.int 12 = V.int ((12 : Nat) : Int) from rfl, len_decV, List.length_map, C2.2.length]
          by_cases h12 : cs.length = 12
          · rw [decide_eq_true h12]
            refine iteT (kF H2 (O.same.trans s12) ?_)
            rw [e1, e2, decide_eq_false (show ¬ cs.length ≠ 12 from fun z => z h12)] <;> rfl
          · rw [decide_eq_false h12]
            refine iteF ?_
            refine ⟨_, rfl, wl, _, 1, .str n, rfl, rfl, s12.seq hw, atI_nat (j := 1) rfl, ?_⟩
            refine ⟨_, rfl, p, _, dx, _, _, rfl, hp2, T.cl_SheetReader, T.na_found, rdF_found l, l, rfl, ⟨_, SqL.of C2.1⟩, fun D hD => ?_⟩
            have em : es.map (fun e => V.ref e.1) = (es.map (·.1)).map V.ref := by rw [List.map_map] <;> rfl
            refine lc_first (by rw [← em]; exact SqL.of C2.1) C2.firsts (by rw [List.length_map, C2.2.length]; omega) hD (by show 2 < 3; decide) fun H3 s3 eD => ?_
            refine ⟨D, _, rfl, .inl (SqL.of eD), rfl, flat_strs _, _, rfl, ?_⟩
            show if inV (V.str n) ((cs.map (·.name)).map V.str) = true then _ else _
            rw [inV_strs]
            have s13 := s12.trans s3
            by_cases hm : n ∈ cs.map (·.name)
            · rw [decide_eq_true hm]
              refine iteT (kF H3 (O.same.trans s13) ?_)
              rw [e1, e2, decide_eq_true h12, decide_eq_false (show ¬ n ∉ cs.map (·.name) from fun z => z hm)] <;> rfl
            · rw [decide_eq_false hm]
              refine iteF ?_
              have C3 := O.at_.same s13
              have hp3 := s3 _ _ hp2
              -- self.found.append((words[1], [], []))
              refine ⟨_, rfl, p, _, dx, _, _, rfl, hp3, T.cl_SheetReader, T.na_found, rdF_found l, .inl ⟨rfl, _, SqL.of C3.1⟩, _, rfl, wl, _, 1, .str n, rfl, rfl, s13.seq hw, atI_nat (j := 1) rfl, ?_⟩
              refine ⟨Nat.zero_le _, fun q1 hq1 => ⟨Nat.zero_le _, fun q2 hq2 => ⟨(by show 3 ≤ sizeLine; decide), fun t ht => ?_⟩⟩⟩
              obtain ⟨n12, hq2'⟩ := fresh2r hq1 hq2
              have s4 := same_new (o := .lst []) hq1
              have s5 := same_new (o := .lst []) hq2
              have s6 := same_new (o := .tup [.str n, .ref q1, .ref q2]) ht
              have s46 := (s4.trans s5).trans s6
              refine ⟨l, _, _, rfl, rfl, s46 _ _ C3.1, ?_, ?_⟩
              · rw [List.length_map, C3.2.length]
                exact Nat.lt_of_le_of_lt hl (by decide)
              · have cue : CueAt (upd (upd (upd H3 q1 (.lst [])) q2 (.lst [])) t (.tup [.str n, .ref q1, .ref q2])) (t, q1, q2) ⟨n, [], []⟩ :=
                  ⟨upd_same, ⟨[], s6 _ _ (s5 _ _ upd_same), .nil⟩, ⟨[], s6 _ _ upd_same, .nil⟩⟩
                have O4 := (O.next s13).push (e := (t, q1, q2)) (c := ⟨n, [], []⟩) s46 hq1 hq2' n12 cue
                have R4 : RdAt K _ p l := RdAt.upd (ys := es.map (fun e => V.ref e.1) ++ [V.ref t]) (R.same (s13.trans s46)) (s46 _ _ C3.1)
                refine kT _ _ _ O4 R4 ?_
                rw [e1, e2, decide_eq_true h12, decide_eq_true hm] <;> rfl
    · rw [decide_eq_false h2]
      exact iteT (kF H O.same (cueIn_not2 h2))
theorem moveIn_not4 {cs : List Cue} {ws : List Str} (h : ws.length ≠ 4) : moveIn cs ws = none := by
  unfold moveIn
  split
  · exact absurd rfl h
  · rfl
theorem moveIn_nil (ws : List Str) : moveIn [] ws = none := by
  unfold moveIn
  split
  · rename_i e
    cases e
  · rfl
theorem moveIn_four {cs : List Cue} {c : Cue} (e : cs.getLast? = some c) (v n g t : Str) : moveIn cs [v, n, g, t] = if (mvOk n (numOf g) (numOf t) && (c.fols.isEmpty && (decide (c.moves.length ≠ 6) && decide (n ∉ c.moves.map (·.1))))) = true
      then some (cs.dropLast ++ [{ c with moves := c.moves ++ [(n, (numOf g).getD 0, (numOf t).getD 0)] }]) else none := by
  unfold moveIn
  rw [e]
theorem mvOk_nums {n : Str} {a b : Option Int} (h : mvOk n a b = true) : ∃ i j, a = some i ∧ b = some j := by
  unfold mvOk at h
  obtain ⟨_, h⟩ := Bool.and_eq_true_iff.mp h
  obtain ⟨h1, h2⟩ := Bool.and_eq_true_iff.mp h
  obtain ⟨i, ei⟩ := whole_some h1
  obtain ⟨j, ej⟩ := whole_some h2
  exact ⟨i, j, ei, ej⟩
abbrev nn_SheetReader_takes_move : List Str := ["self", "words", "name", "moves", "followers", "move", "other"]
theorem sc_SheetReader_takes_move : FnScope nn_SheetReader_takes_move ["self", "words"] (defScope s_SheetReader_takes_move) := ⟨rfl, rfl, rfl, by decide +kernel, rfl, by decide +kernel, by decide +kernel⟩
theorem ok_SheetReader_takes_move (T : Tx K mg) : OkD P w K mg base CX0 3 ("SheetReader", some "takes_move") ["self", "words"] (spTakes K moveIn) := by
  obtain ⟨fd_is_move, G_is_move, b_is_move, k_is_move⟩ := ok_is_move (P := P) (w := w) (base := base) T
  obtain ⟨fd_number_in, G_number_in, b_number_in, k_number_in⟩ := ok_number_in (P := P) (w := w) (base := base) T
  refine OkD.mk T.f_SheetReader_takes_move sc_SheetReader_takes_move (fun _ _ _ _ _ _ us hl => match us, hl with | [_, _], _ => rfl) (fun vs H Q E h => ?_) (fun cdv A outer s H vs Q E hr h => ?_)
  · obtain ⟨B, p, l, wl, es, cs, ws, rfl, _⟩ := h
    rfl
  · obtain ⟨B, p, l, wl, es, cs, ws, rfl, R, O, S, hw, hlen, hne, kF, kT⟩ := h
    have hr_is_move : Room 2 _ := hr.mono (by decide)
    have hr_number_in : Room 1 _ := hr.mono (by decide)
    refine ⟨_, (pss_cons (ps_if (PW.pt (pw_or (pt_cmpR op_ne (pe_callB call_len_seq (by rfl) T.b_len bv_len (pa_cons (pv 1) pa_nil)) pe_int (by first | exact nomark _ | rfl)) (pw_or1 (pt_cmpR (op_eqD hr.units) (pe_fld (pv 0) rfl) (pe_lst pa_nil) (by first | exact nomark _ | rfl)))))
        (pss_one (ps_ret pe_bl))
        pss_nil)
      (pss_cons (ps_asg (pe_ix ix_list (pe_fld (pv 0) rfl) (pe_un un_neg pe_int) (fun _ _ => rfl)) (pg_tup rfl (pgs_cons (pg_name (i := 2) sc_SheetReader_takes_move.nd rfl (Or.inl rfl)) (pgs_cons (pg_name (i := 3) sc_SheetReader_takes_move.nd rfl (Or.inl rfl)) (pgs_cons (pg_name (i := 4) sc_SheetReader_takes_move.nd rfl (Or.inl rfl)) pgs_nil)))))
      (pss_cons (ps_set (i := 5) sc_SheetReader_takes_move.nd rfl (Or.inl rfl) (pe_tup (pa_cons (pe_ix ix_list (pv 1) pe_int (fun _ _ => rfl)) (pa_cons (pe_call G_number_in hr_number_in (by rfl) T.g_number_in k_number_in b_number_in .nil pass0 (pa_cons (pe_ix ix_list (pv 1) pe_int (fun _ _ => rfl)) pa_nil)) (pa_cons (pe_call G_number_in hr_number_in (by rfl) T.g_number_in k_number_in b_number_in .nil pass0 (pa_cons (pe_ix ix_list (pv 1) pe_int (fun _ _ => rfl)) pa_nil)) pa_nil)))))
      (pss_cons (ps_if (PW.pt (pw_or (pt_not (pt_val (pe_call G_is_move hr_is_move (by rfl) T.g_is_move k_is_move b_is_move .nil pass0 (pa_cons (pv 5) pa_nil)))) (pw_or (pt_cmpR (op_neD hr.units) (pv 4) (pe_lst pa_nil) (by first | exact nomark _ | rfl)) (pw_or1 (pt_cmpR op_eq (pe_callB call_len_seq (by rfl) T.b_len bv_len (pa_cons (pv 3) pa_nil)) (pe_glob (v := .int 6) (by rfl) (T.c_MOST_MOVES).choose_spec ⟨_, rfl⟩) (by first | exact nomark _ | rfl))))))
        (pss_one (ps_ret pe_bl))
        pss_nil)
      (pss_cons (ps_if (pt_cmpR op_in_seq (pe_ix ix_tup (pv 5) pe_int (fun _ _ => rfl)) (pe_lc (g := gName 6) (own := [("other", 6)]) rfl sc_SheetReader_takes_move.nd (pi_list (pv 3)) (blkOk_by (own := [("other", 6)]) (N := nn_SheetReader_takes_move) (sc := defScope s_SheetReader_takes_move) (by decide +kernel)) (fun _ _ _ _ _ => (pg_name (i := 6) sc_SheetReader_takes_move.nd rfl (Or.inl rfl))) (fun _ _ _ _ _ => pts_nil) (fun _ _ _ _ _ => (pe_ix (r := rIxT K) ix_tup (pv 6) pe_int (fun _ _ => rfl)))) (by first | exact nomark _ | rfl))
        (pss_one (ps_ret pe_bl))
        pss_nil)
      (pss_cons (ps_expr (pe_bm PySem.F.plainAttrs_list PySem.F.slot_list_append PySem.F.type_list_append mt_append (pv 3) (pa_cons (pv 5) pa_nil)))
      (pss_one (ps_ret pe_bl)))))))), ?_⟩
    refine ⟨_, rfl, wl, _, rfl, .inl hw, rfl, _, rfl, ?_⟩
    rw [show V.int 4 = V.int ((4 : Nat) : Int) from rfl, len_dec]
    by_cases h4 : ws.length = 4
    · rw [decide_eq_true h4]
      refine iteF ?_
      obtain ⟨v, n, g, u, rfl⟩ := four_of h4
      obtain ⟨dx, hp⟩ := R
      have R : RdAt K H p l := ⟨dx, hp⟩
      refine ⟨_, rfl, p, _, dx, _, _, rfl, hp, T.cl_SheetReader, T.na_found, rdF_found l, Nat.zero_le _, fun q hq => ?_⟩
      have s1 := same_new (o := .lst []) hq
      refine ⟨_, _, cuesAt_dp (O.at_.same s1), .lst (SqL.of upd_same) .nil, cues_shaped S.w, rfl, _, rfl, ?_⟩
      unfold cuesD
      rw [eqv_empty, List.isEmpty_map]
      cases e : cs.getLast? with
      | none =>
        have ec := List.getLast?_eq_none_iff.mp e
        subst ec
        exact iteT (kF _ (O.same.trans s1) (moveIn_nil _))
      | some c =>
        have ne : cs.isEmpty = false := by
          cases cs with
          | nil => cases e
          | cons a r => rfl
        rw [ne]
        refine iteF ?_
        obtain ⟨es0, x, ee, pp, fx⟩ := paired_split O.at_.2 e
        subst ee
        rw [moveIn_four e] at kF kT
        have fx1 := fx.same s1
        have C1 := O.at_.same s1
        refine ⟨_, rfl, p, _, dx, _, _, rfl, s1 _ _ hp, T.cl_SheetReader, T.na_found, rdF_found l, 1, rfl, l, _, -1, .ref x.1, rfl, rfl, SqL.of C1.1, by rw [List.map_append]; exact atI_last _ _, ?_⟩
        refine ⟨x.1, _, rfl, SqT.of fx1.1, rfl, _, _, rfl, _, _, rfl, _, _, rfl, rfl, ?_⟩
        -- move = (words[1], number_in(words[2]), number_in(words[3]))
        refine ⟨_, rfl, wl, _, 1, .str n, rfl, rfl, s1.seq hw, atI_nat (j := 1) rfl, ?_⟩
        refine ⟨_, rfl, wl, _, 2, .str g, rfl, rfl, s1.seq hw, atI_nat (j := 2) rfl, g, rfl, hlen g (by simp), fun H2 s2 => ?_⟩
        have s12 := s1.trans s2
        refine ⟨_, rfl, wl, _, 3, .str u, rfl, rfl, s12.seq hw, atI_nat (j := 3) rfl, u, rfl, hlen u (by simp), fun H3 s3 => ?_⟩
        have s13 := s12.trans s3
        refine ⟨(by show 3 ≤ sizeLine; decide), fun t ht => ?_⟩
        have s4 := same_new (o := .tup [.str n, optV (numOf g), optV (numOf u)]) ht
        have s14 := s13.trans s4
        refine ⟨_, rfl, t, n, numOf g, numOf u, rfl, upd_same, hlen n (by simp), fun H5 s5 => ⟨_, rfl, ?_⟩⟩
        have s15 := s14.trans s5
        cases e1 : mvOk n (numOf g) (numOf u) with
        | false =>
          refine iteT (kF H5 (O.same.trans s15) ?_)
          rw [e1] <;> rfl
        | true =>
          refine iteF ?_
          have W := S.w c (last_mem e)
          -- followers != []
          refine ⟨_, rfl, Nat.zero_le _, fun q2 hq2 => ?_⟩
          have s6 := same_new (o := .lst []) hq2
          have s16 := s15.trans s6
          refine ⟨_, _, fosAt_dp (fx.2.2.same s16), .lst (SqL.of upd_same) .nil, fols_shaped W.f, rfl, _, rfl, ?_⟩
          rw [eqv_empty, List.isEmpty_map]
          cases e2 : c.fols.isEmpty with
          | false =>
            refine iteT (kF _ (O.same.trans s16) ?_)
            rw [e1, e2] <;> rfl
          | true =>
            refine iteF ?_
            obtain ⟨ts, hm, hp2⟩ := fx.2.1
            have hm6 := s16 _ _ hm
            refine ⟨_, rfl, x.2.1, _, rfl, .inl (SqL.of hm6), rfl, _, rfl, ?_⟩
            rw [show V.int 6 = V.int ((6 : Nat) : Int) from rfl, len_decV, List.length_map, hp2.length]
            by_cases h6 : c.moves.length = 6
            · rw [decide_eq_true h6]
              refine iteT (kF _ (O.same.trans s16) ?_)
              rw [e1, e2, decide_eq_false (show ¬ c.moves.length ≠ 6 from fun z => z h6)] <;> rfl
            · rw [decide_eq_false h6]
              refine iteF ?_
              -- move[0] in [other[0] for other in moves]
              have ht6 : (upd H5 q2 (.lst [])) t = some (.tup [.str n, optV (numOf g), optV (numOf u)]) := s6 _ _ (s5 _ _ upd_same)
              refine ⟨_, rfl, t, _, 0, .str n, rfl, rfl, SqT.of ht6, atI_nat (j := 0) rfl, ?_⟩
              refine ⟨_, rfl, x.2.1, rfl, ⟨_, SqL.of hm6⟩, fun D hD => ?_⟩
              refine lc_first (SqL.of hm6) (mvs_firsts (Paired.mapP hp2 fun t' m' q => s16 _ _ q)) (by rw [hp2.length]; have := W.ml; omega) hD (by show 6 < 7; decide) fun H7 s7 eD => ?_
              have s17 := s16.trans s7
              refine ⟨D, _, rfl, .inl (SqL.of eD), rfl, flat_strs _, _, rfl, ?_⟩
              show if inV (V.str n) ((c.moves.map (·.1)).map V.str) = true then _ else _
              rw [inV_strs]
              by_cases hmm : n ∈ c.moves.map (·.1)
              · rw [decide_eq_true hmm]
                refine iteT (kF H7 (O.same.trans s17) ?_)
                rw [e1, e2, decide_eq_true h6, decide_eq_false (show ¬ n ∉ c.moves.map (·.1) from fun z => z hmm)] <;> rfl
              · rw [decide_eq_false hmm]
                refine iteF ?_
                -- moves.append(move)
                have hm7 := s7 _ _ hm6
                refine ⟨_, rfl, .inl ⟨rfl, _, SqL.of hm7⟩, _, rfl, x.2.1, _, _, rfl, rfl, hm7, ?_, ?_⟩
                · rw [List.length_map, hp2.length]
                  exact Nat.lt_of_le_of_lt W.ml (by decide)
                · obtain ⟨i, j, ei, ej⟩ := mvOk_nums e1
                  have ht7 : MvAt H7 t (n, i, j) := by
                    have z := s7 _ _ ht6
                    rw [ei, ej] at z
                    exact z
                  have nd := O.nd
                  rw [foot_app, foot_one, List.nodup_append] at nd
                  have nx : x.2.1 ≠ x.2.2 := by
                    have z := nd.2.1
                    simp at z
                    exact z
                  have hM : MvsAt (upd H7 x.2.1 (.lst (ts.map V.ref ++ [V.ref t]))) x.2.1 (c.moves ++ [(n, i, j)]) := MvsAt.snoc hm7 (Paired.mapP hp2 fun t' m' q => s17 _ _ q) ht7
                  have hC : CueAt (upd H7 x.2.1 (.lst (ts.map V.ref ++ [V.ref t]))) x { c with moves := c.moves ++ [(n, i, j)] } :=
                    ⟨by rw [upd_ne (ne_of (s17 _ _ fx.1) hm7 (by intro z; cases z))]; exact s17 _ _ fx.1, hM, (fx.2.2.same s17).upd hm7 nx.symm⟩
                  have O8 := (O.next s17).grow e (.inl rfl) hm7 hC
                  refine kT _ _ _ O8 (RdAt.upd (R.same s17) hm7) ?_
                  rw [e1, e2, decide_eq_true h6, decide_eq_true hmm, ei, ej] <;> rfl
    · rw [decide_eq_false h4]
      exact iteT (kF H O.same (moveIn_not4 h4))
theorem thenIn_not3 {cs : List Cue} {ws : List Str} (h : ws.length ≠ 3) : thenIn cs ws = none := by
  unfold thenIn
  split
  · exact absurd rfl h
  · rfl
theorem thenIn_nil (ws : List Str) : thenIn [] ws = none := by
  unfold thenIn
  split
  · rename_i e
    cases e
  · rfl
theorem thenIn_three {cs : List Cue} {c : Cue} (e : cs.getLast? = some c) (v n t : Str) : thenIn cs [v, n, t] = if (!c.moves.isEmpty && (foOk n (numOf t) && decide (c.fols.length ≠ 3))) = true
      then some (cs.dropLast ++ [{ c with fols := c.fols ++ [(n, (numOf t).getD 0)] }]) else none := by
  unfold thenIn
  rw [e]
theorem lastOpen_some {cs : List Cue} {c : Cue} (e : cs.getLast? = some c) : lastOpen cs = c.moves.isEmpty := by
  unfold lastOpen
  rw [e]
abbrev nn_SheetReader_takes_follower : List Str := ["self", "words", "follower"]
theorem sc_SheetReader_takes_follower : FnScope nn_SheetReader_takes_follower ["self", "words"] (defScope s_SheetReader_takes_follower) := ⟨rfl, rfl, rfl, by decide +kernel, rfl, by decide +kernel, by decide +kernel⟩
theorem ok_SheetReader_takes_follower (T : Tx K mg) : OkD P w K mg base CX0 3 ("SheetReader", some "takes_follower") ["self", "words"] (spTakes K thenIn) := by
  obtain ⟨fd_SheetReader_is_open, G_SheetReader_is_open, b_SheetReader_is_open, k_SheetReader_is_open⟩ := ok_SheetReader_is_open (P := P) (w := w) (base := base) T
  obtain ⟨fd_is_follower, G_is_follower, b_is_follower, k_is_follower⟩ := ok_is_follower (P := P) (w := w) (base := base) T
  obtain ⟨fd_number_in, G_number_in, b_number_in, k_number_in⟩ := ok_number_in (P := P) (w := w) (base := base) T
  refine OkD.mk T.f_SheetReader_takes_follower sc_SheetReader_takes_follower (fun _ _ _ _ _ _ us hl => match us, hl with | [_, _], _ => rfl) (fun vs H Q E h => ?_) (fun cdv A outer s H vs Q E hr h => ?_)
  · obtain ⟨B, p, l, wl, es, cs, ws, rfl, _⟩ := h
    rfl
  · obtain ⟨B, p, l, wl, es, cs, ws, rfl, R, O, S, hw, hlen, hne, kF, kT⟩ := h
    have hr_SheetReader_is_open : Room 1 _ := hr.mono (by decide)
    have hr_is_follower : Room 2 _ := hr.mono (by decide)
    have hr_number_in : Room 1 _ := hr.mono (by decide)
    refine ⟨_, (pss_cons (ps_if (PW.pt (pw_or (pt_cmpR op_ne (pe_callB call_len_seq (by rfl) T.b_len bv_len (pa_cons (pv 1) pa_nil)) pe_int (by first | exact nomark _ | rfl)) (pw_or (pt_cmpR (op_eqD hr.units) (pe_fld (pv 0) rfl) (pe_lst pa_nil) (by first | exact nomark _ | rfl)) (pw_or1 (pt_val (pe_meth0 (pv 0) T.cl_SheetReader T.m_SheetReader_is_open G_SheetReader_is_open hr_SheetReader_is_open b_SheetReader_is_open .nil pass0))))))
        (pss_one (ps_ret pe_bl))
        pss_nil)
      (pss_cons (ps_set (i := 2) sc_SheetReader_takes_follower.nd rfl (Or.inl rfl) (pe_tup (pa_cons (pe_ix ix_list (pv 1) pe_int (fun _ _ => rfl)) (pa_cons (pe_call G_number_in hr_number_in (by rfl) T.g_number_in k_number_in b_number_in .nil pass0 (pa_cons (pe_ix ix_list (pv 1) pe_int (fun _ _ => rfl)) pa_nil)) pa_nil))))
      (pss_cons (ps_if (PW.pt (pw_or (pt_not (pt_val (pe_call G_is_follower hr_is_follower (by rfl) T.g_is_follower k_is_follower b_is_follower .nil pass0 (pa_cons (pv 2) pa_nil)))) (pw_or1 (pt_cmpR op_eq (pe_callB call_len_seq (by rfl) T.b_len bv_len (pa_cons (pe_ix ix_tup (pe_ix ix_list (pe_fld (pv 0) rfl) (pe_un un_neg pe_int) (fun _ _ => rfl)) pe_int (fun _ _ => rfl)) pa_nil)) (pe_glob (v := .int 3) (by rfl) (T.c_MOST_FOLLOWERS).choose_spec ⟨_, rfl⟩) (by first | exact nomark _ | rfl)))))
        (pss_one (ps_ret pe_bl))
        pss_nil)
      (pss_cons (ps_expr (pe_bm PySem.F.plainAttrs_list PySem.F.slot_list_append PySem.F.type_list_append mt_append (pe_ix ix_tup (pe_ix ix_list (pe_fld (pv 0) rfl) (pe_un un_neg pe_int) (fun _ _ => rfl)) pe_int (fun _ _ => rfl)) (pa_cons (pv 2) pa_nil)))
      (pss_one (ps_ret pe_bl)))))), ?_⟩
    refine ⟨_, rfl, wl, _, rfl, .inl hw, rfl, _, rfl, ?_⟩
    rw [show V.int 3 = V.int ((3 : Nat) : Int) from rfl, len_dec]
    by_cases h3 : ws.length = 3
    · rw [decide_eq_true h3]
      refine iteF ?_
      obtain ⟨v, n, u, rfl⟩ := three_of h3
      obtain ⟨dx, hp⟩ := R
      have R : RdAt K H p l := ⟨dx, hp⟩
      refine ⟨_, rfl, p, _, dx, _, _, rfl, hp, T.cl_SheetReader, T.na_found, rdF_found l, Nat.zero_le _, fun q hq => ?_⟩
      have s1 := same_new (o := .lst []) hq
      refine ⟨_, _, cuesAt_dp (O.at_.same s1), .lst (SqL.of upd_same) .nil, cues_shaped S.w, rfl, _, rfl, ?_⟩
      unfold cuesD
      rw [eqv_empty, List.isEmpty_map]
      cases e : cs.getLast? with
      | none =>
        have ec := List.getLast?_eq_none_iff.mp e
        subst ec
        exact iteT (kF _ (O.same.trans s1) (thenIn_nil _))
      | some c =>
        have ne : cs.isEmpty = false := by
          cases cs with
          | nil => cases e
          | cons a r => rfl
        rw [ne]
        refine iteF ?_
        obtain ⟨es0, x, ee, pp, fx⟩ := paired_split O.at_.2 e
        subst ee
        rw [thenIn_three e] at kF kT
        refine ⟨_, rfl, p, dx, _, rfl, s1 _ _ hp, rdF_no l (by decide +kernel), p, l, _, cs, rfl, R.same s1, O.at_.same s1, S.w, fun H2 s2 => ⟨_, rfl, ?_⟩⟩
        have s12 := s1.trans s2
        rw [lastOpen_some e]
        cases e0 : c.moves.isEmpty with
        | true =>
          refine iteT (kF H2 (O.same.trans s12) ?_)
          rw [e0] <;> rfl
        | false =>
          refine iteF ?_
          refine ⟨_, rfl, wl, _, 1, .str n, rfl, rfl, s12.seq hw, atI_nat (j := 1) rfl, ?_⟩
          refine ⟨_, rfl, wl, _, 2, .str u, rfl, rfl, s12.seq hw, atI_nat (j := 2) rfl, u, rfl, hlen u (by simp), fun H3 s3 => ?_⟩
          have s13 := s12.trans s3
          refine ⟨(by show 2 ≤ sizeLine; decide), fun t ht => ?_⟩
          have s4 := same_new (o := .tup [.str n, optV (numOf u)]) ht
          have s14 := s13.trans s4
          refine ⟨_, rfl, t, n, numOf u, rfl, upd_same, hlen n (by simp), fun H5 s5 => ⟨_, rfl, ?_⟩⟩
          have s15 := s14.trans s5
          cases e1 : foOk n (numOf u) with
          | false =>
            refine iteT (kF H5 (O.same.trans s15) ?_)
            rw [e0, e1] <;> rfl
          | true =>
            refine iteF ?_
            have W := S.w c (last_mem e)
            have fx5 := fx.same s15
            have C5 := O.at_.same s15
            obtain ⟨ts, hm, hp2⟩ := fx5.2.2
            refine ⟨_, rfl, p, _, dx, _, _, rfl, s15 _ _ hp, T.cl_SheetReader, T.na_found, rdF_found l, 1, rfl, l, _, -1, .ref x.1, rfl, rfl, SqL.of C5.1, by rw [List.map_append]; exact atI_last _ _, ?_⟩
            refine ⟨x.1, _, 2, .ref x.2.2, rfl, rfl, SqT.of fx5.1, atI_nat (j := 2) rfl, x.2.2, _, rfl, .inl (SqL.of hm), rfl, _, rfl, ?_⟩
            rw [len_decV, List.length_map, hp2.length]
            by_cases h6 : c.fols.length = 3
            · rw [decide_eq_true h6]
              refine iteT (kF _ (O.same.trans s15) ?_)
              rw [e0, e1, decide_eq_false (show ¬ c.fols.length ≠ 3 from fun z => z h6)] <;> rfl
            · rw [decide_eq_false h6]
              refine iteF ?_
              refine ⟨_, rfl, p, _, dx, _, _, rfl, s15 _ _ hp, T.cl_SheetReader, T.na_found, rdF_found l, 1, rfl, l, _, -1, .ref x.1, rfl, rfl, SqL.of C5.1, by rw [List.map_append]; exact atI_last _ _, ?_⟩
              refine ⟨x.1, _, 2, .ref x.2.2, rfl, rfl, SqT.of fx5.1, atI_nat (j := 2) rfl, .inl ⟨rfl, _, SqL.of hm⟩, _, rfl, x.2.2, _, _, rfl, rfl, hm, ?_, ?_⟩
              · rw [List.length_map, hp2.length]
                exact Nat.lt_of_le_of_lt W.fl (by decide)
              · obtain ⟨_, q6⟩ := Bool.and_eq_true_iff.mp (show (isName n && whole (numOf u) 0 50) = true from e1)
                obtain ⟨j, ej⟩ := whole_some q6
                have ht5 : FoAt H5 t (n, j) := by
                  have z := s5 _ _ (upd_same (H := H3) (a := t) (o := .tup [.str n, optV (numOf u)]))
                  rw [ej] at z
                  exact z
                have nd := O.nd
                rw [foot_app, foot_one, List.nodup_append] at nd
                have nx : x.2.1 ≠ x.2.2 := by
                  have z := nd.2.1
                  simp at z
                  exact z
                have hM : FosAt (upd H5 x.2.2 (.lst (ts.map V.ref ++ [V.ref t]))) x.2.2 (c.fols ++ [(n, j)]) := FosAt.snoc hm hp2 ht5
                have hC : CueAt (upd H5 x.2.2 (.lst (ts.map V.ref ++ [V.ref t]))) x { c with fols := c.fols ++ [(n, j)] } :=
                  ⟨by rw [upd_ne (ne_of fx5.1 hm (by intro z; cases z))]; exact fx5.1, fx5.2.1.upd hm nx, hM⟩
                have O8 := (O.next s15).grow e (.inr rfl) hm hC
                refine kT _ _ _ O8 (RdAt.upd (R.same s15) hm) ?_
                rw [e0, e1, decide_eq_true h6, ej] <;> rfl
    · rw [decide_eq_false h3]
      exact iteT (kF H O.same (thenIn_not3 h3))
theorem strV_dec (a b : Str) : decide (V.str a = V.str b) = decide (a = b) := by
  refine decide_eq_decide.mpr ⟨fun h => ?_, fun h => by rw [h]⟩
  injection h
theorem rowIn_cons (cs : List Cue) (v : Str) (r : List Str) : rowIn cs (v :: r) = if v = sCue then cueIn cs (v :: r) else if v = sMove then moveIn cs (v :: r) else if v = sThen then thenIn cs (v :: r) else none := rfl
abbrev nn_SheetReader_takes : List Str := ["self", "words"]
theorem sc_SheetReader_takes : FnScope nn_SheetReader_takes ["self", "words"] (defScope s_SheetReader_takes) := ⟨rfl, rfl, rfl, by decide +kernel, rfl, by decide +kernel, by decide +kernel⟩
theorem ok_SheetReader_takes (T : Tx K mg) : OkD P w K mg base CX0 4 ("SheetReader", some "takes") ["self", "words"] (spTakes K rowIn) := by
  obtain ⟨fd_SheetReader_takes_cue, G_SheetReader_takes_cue, b_SheetReader_takes_cue, k_SheetReader_takes_cue⟩ := ok_SheetReader_takes_cue (P := P) (w := w) (base := base) T
  obtain ⟨fd_SheetReader_takes_follower, G_SheetReader_takes_follower, b_SheetReader_takes_follower, k_SheetReader_takes_follower⟩ := ok_SheetReader_takes_follower (P := P) (w := w) (base := base) T
  obtain ⟨fd_SheetReader_takes_move, G_SheetReader_takes_move, b_SheetReader_takes_move, k_SheetReader_takes_move⟩ := ok_SheetReader_takes_move (P := P) (w := w) (base := base) T
  refine OkD.mk T.f_SheetReader_takes sc_SheetReader_takes (fun _ _ _ _ _ _ us hl => match us, hl with | [_, _], _ => rfl) (fun vs H Q E h => ?_) (fun cdv A outer s H vs Q E hr h => ?_)
  · obtain ⟨B, p, l, wl, es, cs, ws, rfl, _⟩ := h
    rfl
  · obtain ⟨B, p, l, wl, es, cs, ws, rfl, R, O, S, hw, hlen, hne, kF, kT⟩ := h
    have hr_SheetReader_takes_cue : Room 2 _ := hr.mono (by decide)
    have hr_SheetReader_takes_follower : Room 3 _ := hr.mono (by decide)
    have hr_SheetReader_takes_move : Room 3 _ := hr.mono (by decide)
    refine ⟨_, (pss_cons (ps_if (pt_cmpR op_eq (pe_ix ix_list (pv 1) pe_int (fun _ _ => rfl)) pe_str (by first | exact nomark _ | rfl))
        (pss_one (ps_ret (pe_meth (pv 0) T.cl_SheetReader T.m_SheetReader_takes_cue G_SheetReader_takes_cue hr_SheetReader_takes_cue b_SheetReader_takes_cue .nil pass0 (pa_cons (pv 1) pa_nil))))
        pss_nil)
      (pss_cons (ps_if (pt_cmpR op_eq (pe_ix ix_list (pv 1) pe_int (fun _ _ => rfl)) pe_str (by first | exact nomark _ | rfl))
        (pss_one (ps_ret (pe_meth (pv 0) T.cl_SheetReader T.m_SheetReader_takes_move G_SheetReader_takes_move hr_SheetReader_takes_move b_SheetReader_takes_move .nil pass0 (pa_cons (pv 1) pa_nil))))
        pss_nil)
      (pss_one (ps_ret (pe_and (pe_cmpR op_eq (pe_ix ix_list (pv 1) pe_int (fun _ _ => rfl)) pe_str (by first | exact nomark _ | rfl)) (pe_one (pe_meth (pv 0) T.cl_SheetReader T.m_SheetReader_takes_follower G_SheetReader_takes_follower hr_SheetReader_takes_follower b_SheetReader_takes_follower .nil pass0 (pa_cons (pv 1) pa_nil)))))))), ?_⟩
    obtain ⟨dx, hp⟩ := R
    have R : RdAt K H p l := ⟨dx, hp⟩
    cases ws with
    | nil => exact absurd rfl hne
    | cons v r =>
      rw [rowIn_cons] at kF kT
      refine ⟨_, rfl, wl, _, 0, .str v, rfl, rfl, hw, atI_nat (j := 0) rfl, rfl, _, rfl, ?_⟩
      rw [strV_dec]
      by_cases h1 : v = sCue
      · rw [if_pos h1] at kF kT
        rw [decide_eq_true h1]
        refine iteT ?_
        exact ⟨_, rfl, p, dx, _, rfl, hp, rdF_no l (by decide +kernel), _, rfl, B, p, l, wl, es, cs, _, rfl, R, O, S, hw, hlen, hne, kF, kT⟩
      · rw [if_neg h1] at kF kT
        rw [decide_eq_false h1]
        refine iteF ?_
        refine ⟨_, rfl, wl, _, 0, .str v, rfl, rfl, hw, atI_nat (j := 0) rfl, rfl, _, rfl, ?_⟩
        rw [strV_dec]
        by_cases h2 : v = sMove
        · rw [if_pos h2] at kF kT
          rw [decide_eq_true h2]
          refine iteT ?_
          exact ⟨_, rfl, p, dx, _, rfl, hp, rdF_no l (by decide +kernel), _, rfl, B, p, l, wl, es, cs, _, rfl, R, O, S, hw, hlen, hne, kF, kT⟩
        · rw [if_neg h2] at kF kT
          rw [decide_eq_false h2]
          refine iteF ?_
          refine ⟨_, rfl, wl, _, 0, .str v, rfl, rfl, hw, atI_nat (j := 0) rfl, rfl, _, rfl, ?_⟩
          rw [strV_dec]
          by_cases h3 : v = sThen
          · rw [if_pos h3] at kF kT
            rw [decide_eq_true h3]
            refine iteT ?_
            exact ⟨_, rfl, p, dx, _, rfl, hp, rdF_no l (by decide +kernel), _, rfl, B, p, l, wl, es, cs, _, rfl, R, O, S, hw, hlen, hne, kF, kT⟩
          · rw [if_neg h3] at kF
            rw [decide_eq_false h3]
            exact iteF (kF H O.same rfl)
end
end Fw

/-! ==== FwW3 ==== -/
set_option Elab.async false
set_option linter.all false
set_option maxRecDepth 100000
set_option maxHeartbeats 4000000
/-! walks: what a sheet asks of cues; the sheet -/
namespace Fw
open PySem PySem.Spec PyProof.Rows L2 TL
section
variable {P : Program} {w : World} {K : PySem.W.Frag} {mg : Str → Option Value} {base : Heap}
theorem all_true {α : Type} (l : List α) : (l.map fun _ => true).all id = true := by
  rw [List.all_map]
  exact List.all_eq_true.mpr fun _ _ => rfl
theorem all_trueV {α : Type} (l : List α) : (List.range l.length).filterMap (fun j => l[j]?.map fun _ => V.bl true) = (l.map fun _ => true).map V.bl := by
  rw [range_map, List.map_map] <;> rfl
def spIsCue : Sp := fun vs H Q _ => ∃ (e : Trip) (c : Cue), vs = [.ref e.1] ∧ CueAt H e c ∧ c.W ∧ c.moves ≠ [] ∧ ∀ H', Same H H' → Q (.bl true) H'
theorem W_mv {c : Cue} (W : c.W) {m : Str × Int × Int} (hm : m ∈ c.moves) : mvOk m.1 (some m.2.1) (some m.2.2) = true ∧ m.1.length ≤ 1000000 := ⟨W.m m hm, by have := (W.sm.m m hm).1; omega⟩
theorem W_fo {c : Cue} (W : c.W) {m : Str × Int} (hm : m ∈ c.fols) : foOk m.1 (some m.2) = true ∧ m.1.length ≤ 1000000 := ⟨W.f m hm, by have := (W.sm.f m hm).1; omega⟩
abbrev nn_is_cue : List Str := ["thing", "moves", "followers", "one"]
theorem sc_is_cue : FnScope nn_is_cue ["thing"] (defScope s_is_cue) := ⟨rfl, rfl, rfl, by decide +kernel, rfl, by decide +kernel, by decide +kernel⟩
theorem ok_is_cue (T : Tx K mg) : OkD P w K mg base CX0 3 ("is_cue", none) ["thing"] spIsCue := by
  obtain ⟨fd_are_unlike, G_are_unlike, b_are_unlike, k_are_unlike⟩ := ok_are_unlike (P := P) (w := w) (base := base) T
  obtain ⟨fd_is_follower, G_is_follower, b_is_follower, k_is_follower⟩ := ok_is_follower (P := P) (w := w) (base := base) T
  obtain ⟨fd_is_move, G_is_move, b_is_move, k_is_move⟩ := ok_is_move (P := P) (w := w) (base := base) T
  obtain ⟨fd_is_name, G_is_name, b_is_name, k_is_name⟩ := ok_is_name (P := P) (w := w) (base := base) T
  refine OkD.mk T.f_is_cue sc_is_cue (fun _ _ _ _ _ _ us hl => match us, hl with | [_], _ => rfl) (fun vs H Q E h => ?_) (fun cdv A outer s H vs Q E hr h => ?_)
  · obtain ⟨e, c, rfl, _⟩ := h
    rfl
  · obtain ⟨⟨t, a, b⟩, c, rfl, C, W, hne, k⟩ := h
    have hr_are_unlike : Room 1 _ := hr.mono (by decide)
    have hr_is_follower : Room 2 _ := hr.mono (by decide)
    have hr_is_move : Room 2 _ := hr.mono (by decide)
    have hr_is_name : Room 1 _ := hr.mono (by decide)
    refine ⟨_, (pss_cons (ps_if (PW.pt (pw_or (pt_not (pt_val (pe_callB call_isi (by rfl) T.b_isinstance bv_isinstance (pa_cons (pv 0) (pa_cons (pe_bltn (v := .ty "tuple") (by rfl) T.b_tuple bv_tuple rfl) pa_nil))))) (pw_or (pt_cmpR op_ne (pe_callB call_len_seq (by rfl) T.b_len bv_len (pa_cons (pv 0) pa_nil)) pe_int (by first | exact nomark _ | rfl)) (pw_or1 (pt_not (pt_val (pe_call G_is_name hr_is_name (by rfl) T.g_is_name k_is_name b_is_name .nil pass0 (pa_cons (pe_ix ix_tup (pv 0) pe_int (fun _ _ => rfl)) pa_nil))))))))
        (pss_one (ps_ret pe_bl))
        pss_nil)
      (pss_cons (ps_par (i := 1) (j := 2) (by rfl) sc_is_cue.nd rfl rfl (by decide) rfl rfl (pa_cons (pe_ix ix_tup (pv 0) pe_int (fun _ _ => rfl)) (pa_cons (pe_ix ix_tup (pv 0) pe_int (fun _ _ => rfl)) pa_nil)) (by rfl))
      (pss_cons (ps_if (PW.pt (pw_or (pt_not (pt_val (pe_callB call_isi (by rfl) T.b_isinstance bv_isinstance (pa_cons (pv 1) (pa_cons (pe_bltn (v := .ty "list") (by rfl) T.b_list bv_list rfl) pa_nil))))) (pw_or (pt_not (pt_chain op_le op_le pe_int (pe_callB call_len_seq (by rfl) T.b_len bv_len (pa_cons (pv 1) pa_nil)) (pe_glob (v := .int 6) (by rfl) (T.c_MOST_MOVES).choose_spec ⟨_, rfl⟩))) (pw_or1 (pt_not (pt_val (pe_callB (cr_all rfl) (by rfl) T.b_all bv_all (pa_cons (pe_lc (g := gName 3) (own := [("one", 3)]) rfl sc_is_cue.nd (pi_list (pv 1)) (blkOk_by (own := [("one", 3)]) (N := nn_is_cue) (sc := defScope s_is_cue) (by decide +kernel)) (fun _ _ _ _ _ => (pg_name (i := 3) sc_is_cue.nd rfl (Or.inl rfl))) (fun _ _ _ _ _ => pts_nil) (fun _ _ _ _ _ => (pe_call G_is_move hr_is_move (by rfl) T.g_is_move k_is_move b_is_move .nil pass0 (pa_cons (pv 3) pa_nil)))) pa_nil))))))))
        (pss_one (ps_ret pe_bl))
        pss_nil)
      (pss_cons (ps_if (PW.pt (pw_or (pt_not (pt_val (pe_callB call_isi (by rfl) T.b_isinstance bv_isinstance (pa_cons (pv 2) (pa_cons (pe_bltn (v := .ty "list") (by rfl) T.b_list bv_list rfl) pa_nil))))) (pw_or1 (pt_cmpR op_gt (pe_callB call_len_seq (by rfl) T.b_len bv_len (pa_cons (pv 2) pa_nil)) (pe_glob (v := .int 3) (by rfl) (T.c_MOST_FOLLOWERS).choose_spec ⟨_, rfl⟩) (by first | exact nomark _ | rfl)))))
        (pss_one (ps_ret pe_bl))
        pss_nil)
      (pss_one (ps_ret (pe_and (pe_callB (cr_all rfl) (by rfl) T.b_all bv_all (pa_cons (pe_lc (g := gName 3) (own := [("one", 3)]) rfl sc_is_cue.nd (pi_list (pv 2)) (blkOk_by (own := [("one", 3)]) (N := nn_is_cue) (sc := defScope s_is_cue) (by decide +kernel)) (fun _ _ _ _ _ => (pg_name (i := 3) sc_is_cue.nd rfl (Or.inl rfl))) (fun _ _ _ _ _ => pts_nil) (fun _ _ _ _ _ => (pe_call G_is_follower hr_is_follower (by rfl) T.g_is_follower k_is_follower b_is_follower .nil pass0 (pa_cons (pv 3) pa_nil)))) pa_nil)) (pe_one (pe_call G_are_unlike hr_are_unlike (by rfl) T.g_are_unlike k_are_unlike b_are_unlike .nil pass0 (pa_cons (pe_lc (g := gName 3) (own := [("one", 3)]) rfl sc_is_cue.nd (pi_list (pv 1)) (blkOk_by (own := [("one", 3)]) (N := nn_is_cue) (sc := defScope s_is_cue) (by decide +kernel)) (fun _ _ _ _ _ => (pg_name (i := 3) sc_is_cue.nd rfl (Or.inl rfl))) (fun _ _ _ _ _ => pts_nil) (fun _ _ _ _ _ => (pe_ix (r := rIxT K) ix_tup (pv 3) pe_int (fun _ _ => rfl)))) pa_nil)))))))))), ?_⟩
    obtain ⟨ht, ⟨ms, hm, pm⟩, ⟨fs, hf, pf⟩⟩ := C
    dsimp only at ht hm hf
    have lm := W.ml
    have lf := W.fl
    have lne : 1 ≤ c.moves.length := by
      cases e : c.moves with
      | nil => exact absurd e hne
      | cons a r => exact Nat.succ_le_succ (Nat.zero_le _)
    refine ⟨_, rfl, _, _, _, _, true, rfl, .ty _, .base (.tup ht), kit_ty (by decide +kernel), true, rfl, iteF ?_⟩
    refine ⟨_, rfl, t, _, rfl, .inr (SqT.of ht), rfl, _, rfl, iteNS rfl ?_⟩
    refine ⟨_, rfl, t, _, 0, _, rfl, rfl, SqT.of ht, atI_nat (j := 0) rfl, c.name, rfl, by have := W.sm.n; omega, fun H1 s1 => ⟨_, rfl, ?_⟩⟩
    rw [W.n]
    refine iteF ?_
    have ht1 := s1 _ _ ht
    refine ⟨_, rfl, t, _, 1, .ref a, rfl, rfl, SqT.of ht1, atI_nat (j := 1) rfl, _, rfl, t, _, 2, .ref b, rfl, rfl, SqT.of ht1, atI_nat (j := 2) rfl, _, _, rfl, ?_⟩
    have hm1 := s1 _ _ hm
    have hf1 := s1 _ _ hf
    refine ⟨_, rfl, _, _, _, _, true, rfl, .ty _, .base (.lst hm1), kit_ty (by decide +kernel), true, rfl, iteF ?_⟩
    refine ⟨_, rfl, a, _, rfl, .inl (SqL.of hm1), _, _, rfl, rfl, _, rfl, ?_⟩
    rw [List.length_map, pm.length]
    rw [decide_eq_true (show (1 : Int) ≤ (c.moves.length : Int) by omega)]
    refine iteT ⟨_, _, rfl, rfl, _, rfl, ?_⟩
    rw [decide_eq_true (show (c.moves.length : Int) ≤ 6 by omega)]
    refine iteF ?_
    -- all([is_move(one) for one in moves])
    refine ⟨_, rfl, a, rfl, ⟨_, SqL.of hm1⟩, fun D hD => ?_⟩
    refine lc_f (walk_list (xs := ms.map V.ref)) (fun j => c.moves[j]?.map fun _ => V.bl true) (by rw [List.length_map, pm.length]; exact Nat.lt_of_le_of_lt lm (by decide)) hD (fun H2 s2 => s2.seq (SqL.of hm1)) (fun j x H2 H3 N N0 hj s2 hy kN _ => ?_) (fun H2 s2 eD => ?_)
    · obtain ⟨rfl, hx⟩ := hy
      rw [List.getElem?_map] at hx
      obtain ⟨u, hu, rfl⟩ := Option.map_eq_some_iff.mp hx
      obtain ⟨m, hmm, hmu⟩ := Paired.get pm hu
      obtain ⟨o1, o2⟩ := W_mv W (List.mem_of_getElem? hmm)
      refine ⟨rfl, yes_of ?_⟩
      refine ⟨_, rfl, u, m.1, some m.2.1, some m.2.2, rfl, s2 _ _ (s1 _ _ hmu), o2, fun H4 s4 => kN _ _ ?_ s4⟩
      rw [hmm, o1]
      rfl
    · rw [List.length_map, pm.length, all_trueV] at eD
      refine ⟨D, _, rfl, SqL.of eD, _, rfl, ?_⟩
      rw [all_true]
      refine iteF ?_
      have hf2 := s2 _ _ hf1
      have hm2 := s2 _ _ hm1
      refine ⟨_, rfl, _, _, _, _, true, rfl, .ty _, .base (.lst hf2), kit_ty (by decide +kernel), true, rfl, iteF ?_⟩
      refine ⟨_, rfl, b, _, rfl, .inl (SqL.of hf2), _, _, rfl, rfl, _, rfl, ?_⟩
      rw [List.length_map, pf.length]
      rw [decide_eq_false (show ¬ (3 : Int) < (c.fols.length : Int) by omega)]
      refine iteF ?_
      -- all([is_follower(one) for one in followers]) and are_unlike([one[0] for one in moves])
      refine ⟨_, rfl, b, rfl, ⟨_, SqL.of hf2⟩, fun D2 hD2 => ?_⟩
      have s12 := s1.trans s2
      refine lc_f (walk_list (xs := fs.map V.ref)) (fun j => c.fols[j]?.map fun _ => V.bl true) (by rw [List.length_map, pf.length]; exact Nat.lt_of_le_of_lt lf (by decide)) hD2 (fun H3 s3 => s3.seq (SqL.of hf2)) (fun j x H3 H4 N N0 hj s3 hy kN _ => ?_) (fun H3 s3 eD2 => ?_)
      · obtain ⟨rfl, hx⟩ := hy
        rw [List.getElem?_map] at hx
        obtain ⟨u, hu, rfl⟩ := Option.map_eq_some_iff.mp hx
        obtain ⟨m, hmm, hmu⟩ := Paired.get pf hu
        obtain ⟨o1, o2⟩ := W_fo W (List.mem_of_getElem? hmm)
        refine ⟨rfl, yes_of ?_⟩
        refine ⟨_, rfl, u, m.1, some m.2, rfl, s3 _ _ (s12 _ _ hmu), o2, fun H5 s5 => kN _ _ ?_ s5⟩
        rw [hmm, o1]
        rfl
      · rw [List.length_map, pf.length, all_trueV] at eD2
        refine ⟨D2, _, rfl, SqL.of eD2, _, rfl, ?_⟩
        rw [all_true]
        refine iteT ?_
        have hm3 := s3 _ _ hm2
        have s13 := s12.trans s3
        refine ⟨_, rfl, a, rfl, ⟨_, SqL.of hm3⟩, fun D3 hD3 => ?_⟩
        refine lc_first (SqL.of hm3) (mvs_firsts (Paired.mapP pm fun t' m' q => s13 _ _ q)) (by rw [pm.length]; omega) hD3 (by show 3 < 4; decide) fun H6 s6 eD6 => ?_
        exact ⟨D3, _, rfl, SqL.of eD6, W.nd, by rw [List.length_map]; omega, k H6 (s13.trans s6)⟩
def spNeedCues : Sp := fun vs H Q _ => ∃ (l : Addr) (es : List Trip) (cs : List Cue), vs = [.ref l] ∧ CuesAt H l es cs ∧ SheetOk cs ∧ ∀ H', Same H H' → Q .non H'
abbrev nn_need_cues : List Str := ["thing", "one"]
theorem sc_need_cues : FnScope nn_need_cues ["thing"] (defScope s_need_cues) := ⟨rfl, rfl, rfl, by decide +kernel, rfl, by decide +kernel, by decide +kernel⟩
theorem ok_need_cues (T : Tx K mg) : OkD P w K mg base CX0 4 ("need_cues", none) ["thing"] spNeedCues := by
  obtain ⟨fd_are_unlike, G_are_unlike, b_are_unlike, k_are_unlike⟩ := ok_are_unlike (P := P) (w := w) (base := base) T
  obtain ⟨fd_is_cue, G_is_cue, b_is_cue, k_is_cue⟩ := ok_is_cue (P := P) (w := w) (base := base) T
  refine OkD.mk T.f_need_cues sc_need_cues (fun _ _ _ _ _ _ us hl => match us, hl with | [_], _ => rfl) (fun vs H Q E h => ?_) (fun cdv A outer s H vs Q E hr h => ?_)
  · obtain ⟨l, es, cs, rfl, _⟩ := h
    rfl
  · obtain ⟨l, es, cs, rfl, C, S, k⟩ := h
    have hr_are_unlike : Room 1 _ := hr.mono (by decide)
    have hr_is_cue : Room 3 _ := hr.mono (by decide)
    refine ⟨_, (pss_cons (ps_if (PW.pt (pw_or (pt_not (pt_val (pe_callB call_isi (by rfl) T.b_isinstance bv_isinstance (pa_cons (pv 0) (pa_cons (pe_bltn (v := .ty "list") (by rfl) T.b_list bv_list rfl) pa_nil))))) (pw_or (pt_not (pt_chain op_le op_le pe_int (pe_callB call_len_seq (by rfl) T.b_len bv_len (pa_cons (pv 0) pa_nil)) (pe_glob (v := .int 12) (by rfl) (T.c_MOST_CUES).choose_spec ⟨_, rfl⟩))) (pw_or1 (pt_not (pt_val (pe_callB (cr_all rfl) (by rfl) T.b_all bv_all (pa_cons (pe_lc (g := gName 1) (own := [("one", 1)]) rfl sc_need_cues.nd (pi_list (pv 0)) (blkOk_by (own := [("one", 1)]) (N := nn_need_cues) (sc := defScope s_need_cues) (by decide +kernel)) (fun _ _ _ _ _ => (pg_name (i := 1) sc_need_cues.nd rfl (Or.inl rfl))) (fun _ _ _ _ _ => pts_nil) (fun _ _ _ _ _ => (pe_call G_is_cue hr_is_cue (by rfl) T.g_is_cue k_is_cue b_is_cue .nil pass0 (pa_cons (pv 1) pa_nil)))) pa_nil))))))))
        (pss_one ps_never)
        pss_nil)
      (pss_one (ps_if (pt_not (pt_val (pe_call G_are_unlike hr_are_unlike (by rfl) T.g_are_unlike k_are_unlike b_are_unlike .nil pass0 (pa_cons (pe_lc (g := gName 1) (own := [("one", 1)]) rfl sc_need_cues.nd (pi_list (pv 0)) (blkOk_by (own := [("one", 1)]) (N := nn_need_cues) (sc := defScope s_need_cues) (by decide +kernel)) (fun _ _ _ _ _ => (pg_name (i := 1) sc_need_cues.nd rfl (Or.inl rfl))) (fun _ _ _ _ _ => pts_nil) (fun _ _ _ _ _ => (pe_ix (r := rIxT K) ix_tup (pv 1) pe_int (fun _ _ => rfl)))) pa_nil))))
        (pss_one ps_never)
        pss_nil))), ?_⟩
    have hl := C.1
    have em : es.map (fun e => V.ref e.1) = (es.map (·.1)).map V.ref := by rw [List.map_map] <;> rfl
    have len := C.2.length
    have l1 := S.len
    refine ⟨_, rfl, _, _, _, _, true, rfl, .ty _, .base (.lst hl), kit_ty (by decide +kernel), true, rfl, iteF ?_⟩
    refine ⟨_, rfl, l, _, rfl, .inl (SqL.of hl), _, _, rfl, rfl, _, rfl, ?_⟩
    rw [List.length_map, len]
    rw [decide_eq_true (show (1 : Int) ≤ (cs.length : Int) by omega)]
    refine iteT ⟨_, _, rfl, rfl, _, rfl, ?_⟩
    rw [decide_eq_true (show (cs.length : Int) ≤ 12 by omega)]
    refine iteF ?_
    refine ⟨_, rfl, l, rfl, ⟨_, SqL.of hl⟩, fun D hD => ?_⟩
    refine lc_f (walk_list (xs := es.map fun e => V.ref e.1)) (fun j => cs[j]?.map fun _ => V.bl true) (by rw [List.length_map, len]; exact Nat.lt_of_le_of_lt l1.2 (by decide)) hD (fun H2 s2 => s2.seq (SqL.of hl)) (fun j x H2 H3 N N0 hj s2 hy kN _ => ?_) (fun H2 s2 eD => ?_)
    · obtain ⟨rfl, hx⟩ := hy
      rw [List.getElem?_map] at hx
      obtain ⟨u, hu, rfl⟩ := Option.map_eq_some_iff.mp hx
      obtain ⟨c, hcc, hcu⟩ := Paired.get C.2 hu
      have cm := List.mem_of_getElem? hcc
      refine ⟨rfl, yes_of ?_⟩
      refine ⟨_, rfl, u, c, rfl, hcu.same s2, S.w c cm, S.m c cm, fun H4 s4 => kN _ _ ?_ s4⟩
      rw [hcc]
      rfl
    · rw [List.length_map, len, all_trueV] at eD
      refine ⟨D, _, rfl, SqL.of eD, _, rfl, ?_⟩
      rw [all_true]
      refine iteF ?_
      have C2 := C.same s2
      refine ⟨_, rfl, l, rfl, ⟨_, SqL.of C2.1⟩, fun D3 hD3 => ?_⟩
      refine lc_first (by rw [← em]; exact SqL.of C2.1) C2.firsts (by rw [List.length_map, len]; omega) hD3 (by show 1 < 2; decide) fun H6 s6 eD6 => ?_
      exact ⟨D3, _, rfl, SqL.of eD6, S.nd, by rw [List.length_map]; omega, _, rfl, iteF (k H6 (s2.trans s6))⟩
/-! ### the sheet -/
theorem fresh2x {H : Hp} {p q : Addr} {o : HO} (h2 : upd H p o q = none) : p ≠ q ∧ H q = none := by
  have n : q ≠ p := fun z => by
    rw [z, upd_same] at h2
    cases h2
  rw [upd_ne n] at h2
  exact ⟨n.symm, h2⟩
theorem fresh2 {H : Hp} {p q : Addr} {o : HO} (h1 : H p = none) (h2 : upd H p o q = none) : p ≠ q ∧ H q = none := fresh2x h2
theorem kmf : ¬ (("moves_by" : Str) = "followers_by") := by decide +kernel
def shF (d1 d2 : Addr) : List (Str × V) := putF "followers_by" (.ref d2) (putF "moves_by" (.ref d1) [])
theorem shF_m (d1 d2 : Addr) : (shF d1 d2).lookup ("moves_by" : Str) = some (.ref d1) := by
  unfold shF
  rw [lookup_putF, if_neg kmf, lookup_putF, if_pos rfl]
theorem shF_f (d1 d2 : Addr) : (shF d1 d2).lookup ("followers_by" : Str) = some (.ref d2) := by
  unfold shF
  rw [lookup_putF, if_pos rfl]
theorem shF_no (d1 d2 : Addr) {m : Str} (h1 : ¬ m = "followers_by") (h2 : ¬ m = "moves_by") : (shF d1 d2).lookup m = none := by
  unfold shF
  rw [lookup_putF, if_neg h1, lookup_putF, if_neg h2]
  all_goals rfl
def mby (ls : List (Addr × Addr)) (cs : List Cue) : List (Key × V) := List.zipWith (fun (e : Addr × Addr) (c : Cue) => ((Sum.inr c.name : Key), V.ref e.1)) ls cs
def fby (ls : List (Addr × Addr)) (cs : List Cue) : List (Key × V) := List.zipWith (fun (e : Addr × Addr) (c : Cue) => ((Sum.inr c.name : Key), V.ref e.2)) ls cs
def ListsAt (H : Hp) (e : Addr × Addr) (c : Cue) : Prop := MvsAt H e.1 c.moves ∧ FosAt H e.2 c.fols
structure ShAt (K : PySem.W.Frag) (H : Hp) (p : Addr) (cs : List Cue) : Prop where
  ex : ∃ (dx d1 d2 : Addr) (ls : List (Addr × Addr)), H p = some (.ins (He.ga K "Sheet") dx (shF d1 d2)) ∧ H d1 = some (.dK (mby ls cs)) ∧ H d2 = some (.dK (fby ls cs)) ∧ Paired (ListsAt H) ls cs
theorem ListsAt.same {H H' : Hp} {e : Addr × Addr} {c : Cue} (s : Same H H') (h : ListsAt H e c) : ListsAt H' e c := ⟨h.1.same s, h.2.same s⟩
theorem ShAt.same {H H' : Hp} {p : Addr} {cs : List Cue} (s : Same H H') (h : ShAt K H p cs) : ShAt K H' p cs := by
  obtain ⟨dx, d1, d2, ls, h1, h2, h3, h4⟩ := h.ex
  exact ⟨dx, d1, d2, ls, s _ _ h1, s _ _ h2, s _ _ h3, Paired.mapP h4 fun _ _ q => q.same s⟩
theorem by_none {f : Addr × Addr → Addr} {n : Str} : ∀ {ls : List (Addr × Addr)} {cs : List Cue}, n ∉ cs.map (·.name) → valV (List.zipWith (fun (e : Addr × Addr) (c : Cue) => ((Sum.inr c.name : Key), V.ref (f e))) ls cs) (Sum.inr n) = none
  | [], _, _ => by
    rw [List.zipWith_nil_left] <;> rfl
  | _ :: _, [], _ => rfl
  | e :: ls, c :: cs, h => by
    rw [List.zipWith_cons_cons, valV_neg (fun z => h (by
      injection z with z
      rw [← z]
      exact List.mem_cons_self))]
    exact by_none fun z => h (List.mem_cons_of_mem _ z)
theorem by_some {f : Addr × Addr → Addr} {e : Addr × Addr} {c : Cue} : ∀ {ls : List (Addr × Addr)} {cs : List Cue} {i : Nat}, (cs.map (·.name)).Nodup → ls[i]? = some e → cs[i]? = some c →
    valV (List.zipWith (fun (e : Addr × Addr) (c : Cue) => ((Sum.inr c.name : Key), V.ref (f e))) ls cs) (Sum.inr c.name) = some (.ref (f e))
  | [], _, _, _, h, _ => by simp at h
  | _ :: _, [], _, _, _, h => by simp at h
  | a :: ls, b :: cs, 0, _, h1, h2 => by
    have e1 : a = e := Option.some.inj h1
    have e2 : b = c := Option.some.inj h2
    subst e1 e2
    rw [List.zipWith_cons_cons, valV_pos rfl]
  | a :: ls, b :: cs, i + 1, nd, h1, h2 => by
    have nd2 := List.nodup_cons.mp nd
    have ne : ¬ (Sum.inr b.name : Key) = Sum.inr c.name := fun z => by
      injection z with z
      refine nd2.1 ?_
      show b.name ∈ cs.map (·.name)
      rw [z]
      exact List.mem_map.mpr ⟨c, List.mem_of_getElem? (i := i) h2, rfl⟩
    rw [List.zipWith_cons_cons, valV_neg ne]
    exact by_some nd2.2 h1 h2
theorem by_keys {f : Addr × Addr → Addr} : ∀ {ls : List (Addr × Addr)} {cs : List Cue}, ls.length = cs.length → (List.zipWith (fun (e : Addr × Addr) (c : Cue) => ((Sum.inr c.name : Key), V.ref (f e))) ls cs).map (fun kv => kV kv.1) = (cs.map (·.name)).map V.str
  | [], [], _ => rfl
  | [], _ :: _, h => by cases h
  | _ :: _, [], h => by cases h
  | a :: ls, b :: cs, h => by
    rw [List.zipWith_cons_cons, List.map_cons, by_keys (Nat.succ.inj h)] <;> rfl
theorem by_len {f : Addr × Addr → Addr} (ls : List (Addr × Addr)) (cs : List Cue) : (List.zipWith (fun (e : Addr × Addr) (c : Cue) => ((Sum.inr c.name : Key), V.ref (f e))) ls cs).length ≤ cs.length := by
  rw [List.length_zipWith]
  exact Nat.min_le_right _ _
theorem take_snoc {α : Type} {l : List α} {i : Nat} {x : α} (h : l[i]? = some x) : l.take (i + 1) = l.take i ++ [x] := by
  rw [List.take_add_one, h] <;> rfl
theorem name_new {cs : List Cue} {c : Cue} {i : Nat} (nd : (cs.map (·.name)).Nodup) (h : cs[i]? = some c) : c.name ∉ (cs.take i).map (·.name) := fun hm => by
  rw [List.map_take] at hm
  obtain ⟨j, hj⟩ := List.mem_iff_getElem?.mp hm
  rw [List.getElem?_take] at hj
  split at hj
  · rename_i hji
    have e2 : (cs.map (·.name))[i]? = some c.name := by rw [List.getElem?_map, h] <;> rfl
    have := nd_ix nd hj e2
    omega
  · cases hj
def spSInit (K : PySem.W.Frag) : Sp := fun vs H Q _ => ∃ (p dx l : Addr) (es : List Trip) (cs : List Cue), vs = [.ref p, .ref l] ∧ H p = some (.ins (He.ga K "Sheet") dx []) ∧ CuesAt H l es cs ∧ SheetOk cs ∧
  ∀ H', ShAt K H' p cs → (∀ b o, H b = some o → b ≠ p → H' b = some o) → Q .non H'
abbrev nn_Sheet_init : List Str := ["self", "cues", "name", "moves", "followers"]
theorem sc_Sheet_init : FnScope nn_Sheet_init ["self", "cues"] (defScope s_Sheet_init) := ⟨rfl, rfl, rfl, by decide +kernel, rfl, by decide +kernel, by decide +kernel⟩
theorem ok_Sheet_init (T : Tx K mg) : OkD P w K mg base CX0 5 ("Sheet", some "__init__") ["self", "cues"] (spSInit K) := by
  obtain ⟨fd_need_cues, G_need_cues, b_need_cues, k_need_cues⟩ := ok_need_cues (P := P) (w := w) (base := base) T
  refine OkD.mk T.f_Sheet_init sc_Sheet_init (fun _ _ _ _ _ _ us hl => match us, hl with | [_, _], _ => rfl) (fun vs H Q E h => ?_) (fun cdv A outer s H vs Q E hr h => ?_)
  · obtain ⟨p, dx, l, es, cs, rfl, _⟩ := h
    rfl
  · obtain ⟨p, dx, l, es, cs, rfl, hp, C, S, k⟩ := h
    have hr_need_cues : Room 4 _ := hr.mono (by decide)
    refine ⟨_, (pss_cons (ps_expr (pe_call G_need_cues hr_need_cues (by rfl) T.g_need_cues k_need_cues b_need_cues .nil pass0 (pa_cons (pv 1) pa_nil)))
      (pss_cons (ps_fld (pv 0) pe_dnewK rfl)
      (pss_cons (ps_fld (pv 0) pe_dnewK rfl)
      (pss_one (ps_for PassesOwn.never rfl (pi_list (pv 1)) (pg_tup rfl (pgs_cons (pg_name (i := 2) sc_Sheet_init.nd rfl (Or.inl rfl)) (pgs_cons (pg_name (i := 3) sc_Sheet_init.nd rfl (Or.inl rfl)) (pgs_cons (pg_name (i := 4) sc_Sheet_init.nd rfl (Or.inl rfl)) pgs_nil))))
        (pss_cons (ps_dput (hu_of hr) (pe_fld (pv 0) rfl) (pv 2) (pe_callTy call_list_of (by rfl) T.b_list bv_list (pa_cons (pv 3) pa_nil)) rfl)
          (pss_one (ps_dput (hu_of hr) (pe_fld (pv 0) rfl) (pv 2) (pe_callTy call_list_of (by rfl) T.b_list bv_list (pa_cons (pv 4) pa_nil)) rfl)))))))), ?_⟩
    refine ⟨_, rfl, l, es, cs, rfl, C, S, fun H1 s1 => ?_⟩
    have hp1 := s1 _ _ hp
    intro d1 hd1
    have n1 : p ≠ d1 := ne_of_none hp1 hd1
    refine ⟨_, rfl, p, _, dx, [], rfl, by rw [upd_ne n1]; exact hp1, T.cl_Sheet, T.na_moves_by, (by show 0 < 1000; decide), ?_⟩
    intro d2 hd2
    obtain ⟨n2p, hd2'⟩ : p ≠ d2 ∧ upd H1 d1 (.dK []) d2 = none := fresh2x hd2
    obtain ⟨n12, hd2''⟩ := fresh2 hd1 hd2'
    refine ⟨_, rfl, p, _, dx, _, rfl, by rw [upd_ne n2p]; exact upd_same, T.cl_Sheet, T.na_followers_by, (by show 1 < 1000; decide), ?_⟩
    have len := C.2.length
    have keepB : ∀ {b : Addr} {o : HO}, H1 b = some o → b ≠ p → upd (upd (upd (upd H1 d1 (.dK [])) p (.ins (He.ga K "Sheet") dx (putF "moves_by" (.ref d1) []))) d2 (.dK [])) p (.ins (He.ga K "Sheet") dx (shF d1 d2)) b = some o := fun {b o} e hb => by
      rw [upd_ne hb, upd_ne (ne_of_none e hd2''), upd_ne hb, upd_ne (ne_of_none e hd1)]
      exact e
    -- for name, moves, followers in cues
    refine ⟨_, rfl, l, rfl, ⟨_, SqL.of (keepB (s1 _ _ C.1) (ne_of (s1 _ _ C.1) hp1 (by intro z; cases z)))⟩, ?_⟩
    refine for_it (walk_list (xs := es.map fun e => V.ref e.1)) (fun i σ H2 => ∃ (v2 v3 v4 : Option V) (ls : List (Addr × Addr)), σ = [some (.ref p), some (.ref l), v2, v3, v4] ∧ (∀ b o, H b = some o → b ≠ p → H2 b = some o) ∧
        H2 p = some (.ins (He.ga K "Sheet") dx (shF d1 d2)) ∧ H2 d1 = some (.dK (mby ls (cs.take i))) ∧ H2 d2 = some (.dK (fby ls (cs.take i))) ∧ ls.length = (cs.take i).length ∧ Paired (ListsAt H2) ls (cs.take i)) ?_ ?_ ?_ ?_
    · refine ⟨none, none, none, [], rfl, fun b o e hb => keepB (s1 b o e) hb, upd_same, ?_, ?_, rfl, .nil⟩
      · rw [upd_ne n1.symm, upd_ne n12, upd_ne n1.symm, upd_same] <;> rfl
      · rw [upd_ne n2p.symm, upd_same] <;> rfl
    · rintro i σ H2 hi ⟨v2, v3, v4, ls, rfl, kp, hp2, h1, h2, hll, pl⟩
      exact SqL.of (kp _ _ C.1 (ne_of C.1 hp (by intro z; cases z)))
    · rintro i x σ H0x H2 hi ⟨v2, v3, v4, ls, rfl, kp, hp2, h1, h2, hll, pl⟩ ⟨rfl, hx⟩
      rw [List.getElem?_map] at hx
      obtain ⟨e, he, rfl⟩ := Option.map_eq_some_iff.mp hx
      obtain ⟨c, hc, ce⟩ := Paired.get C.2 he
      have kpi : ∀ {b : Addr} {o : HO}, H b = some o → (∀ dx' fs, o ≠ .ins (He.ga K "Sheet") dx' fs) → H2 b = some o := fun {b o} q hn => kp b o q (ne_of q hp (hn _ _))
      have ce2 : CueAt H2 e c := by
        obtain ⟨c1, ⟨ms, c2, c3⟩, ⟨fs, c4, c5⟩⟩ := ce
        exact ⟨kpi c1 (by intro _ _ z; cases z), ⟨ms, kpi c2 (by intro _ _ z; cases z), Paired.mapP c3 fun t m q => kpi q (by intro _ _ z; cases z)⟩, ⟨fs, kpi c4 (by intro _ _ z; cases z), Paired.mapP c5 fun t m q => kpi q (by intro _ _ z; cases z)⟩⟩
      refine ⟨e.1, _, rfl, SqT.of ce2.1, rfl, _, _, rfl, _, _, rfl, _, _, rfl, rfl, ?_⟩
      obtain ⟨c1, ⟨ms, c2, c3⟩, ⟨fs, c4, c5⟩⟩ := ce2
      have hil : i < cs.length := by
        rw [List.length_map, len] at hi
        exact hi
      have nw := name_new S.nd hc
      have small : (mby ls (cs.take i)).length < sizeLine ∧ (fby ls (cs.take i)).length < sizeLine := by
        have q1 := by_len (f := fun e => e.1) ls (cs.take i)
        have q2 := by_len (f := fun e => e.2) ls (cs.take i)
        rw [List.length_take] at q1 q2
        have := S.len
        have z : (12 : Nat) < sizeLine := by decide
        exact ⟨Nat.lt_of_le_of_lt (Nat.le_trans q1 (by omega)) z, Nat.lt_of_le_of_lt (Nat.le_trans q2 (by omega)) z⟩
      -- self.moves_by[name] = list(moves)
      refine ⟨_, rfl, e.2.1, _, rfl, .inl (SqL.of c2), fun q1 hq1 => ?_⟩
      have t1 := same_new (o := .lst (ms.map V.ref)) hq1
      refine ⟨_, rfl, p, _, dx, _, _, rfl, t1 _ _ hp2, T.cl_Sheet, T.na_moves_by, shF_m d1 d2, _, rfl, d1, _, rfl, DPut.k (k := Sum.inr c.name) (t1 _ _ h1) small.1, ?_⟩
      have e1 : putK (mby ls (cs.take i)) (Sum.inr c.name) (.ref q1) = mby ls (cs.take i) ++ [((Sum.inr c.name : Key), V.ref q1)] := putK_new _ (by_none (f := fun e => e.1) nw)
      rw [e1]
      have nq1 : q1 ≠ d1 := fun z => by
        rw [z, h1] at hq1
        cases hq1
      have nd12 : d1 ≠ d2 := n12
      -- self.followers_by[name] = list(followers)
      have d1H : H d1 = none := s1.free hd1
      have d2H : H d2 = none := s1.free hd2''
      refine ⟨_, rfl, e.2.2, _, rfl, .inl (SqL.of (xs := fs.map V.ref) (by rw [upd_ne (ne_of (t1 _ _ c4) (t1 _ _ h1) (by intro z; cases z))]; exact t1 _ _ c4)), fun q2 hq2 => ?_⟩
      have t2 := same_new (o := .lst (fs.map V.ref)) hq2
      have hq2' : H2 q2 = none := by
        have : q2 ≠ d1 := fun z => by
          rw [z, upd_same] at hq2
          cases hq2
        rw [upd_ne this] at hq2
        exact (fresh2 hq1 hq2).2
      have hp3 : upd (upd H2 q1 (.lst (ms.map V.ref))) d1 (.dK (mby ls (cs.take i) ++ [((Sum.inr c.name : Key), V.ref q1)])) p = some (.ins (He.ga K "Sheet") dx (shF d1 d2)) := by
        rw [upd_ne n1]
        exact t1 _ _ hp2
      have h23 : upd (upd H2 q1 (.lst (ms.map V.ref))) d1 (.dK (mby ls (cs.take i) ++ [((Sum.inr c.name : Key), V.ref q1)])) d2 = some (.dK (fby ls (cs.take i))) := by
        rw [upd_ne n12.symm]
        exact t1 _ _ h2
      refine ⟨_, rfl, p, _, dx, _, _, rfl, t2 _ _ hp3, T.cl_Sheet, T.na_followers_by, shF_f d1 d2, _, rfl, d2, _, rfl, DPut.k (k := Sum.inr c.name) (t2 _ _ h23) small.2, ?_⟩
      have e2 : putK (fby ls (cs.take i)) (Sum.inr c.name) (.ref q2) = fby ls (cs.take i) ++ [((Sum.inr c.name : Key), V.ref q2)] := putK_new _ (by_none (f := fun e => e.2) nw)
      rw [e2]
      -- the heap behind the turn
      have nq1q2 : q1 ≠ q2 := fun z => by
        have : upd (upd H2 q1 (.lst (ms.map V.ref))) d1 (.dK (mby ls (cs.take i) ++ [((Sum.inr c.name : Key), V.ref q1)])) q2 = some (.lst (ms.map V.ref)) := by
          rw [← z, upd_ne nq1, upd_same]
        rw [hq2] at this
        cases this
      have nq2d : q2 ≠ d2 ∧ q2 ≠ d1 := ⟨fun z => (by rw [z, h2] at hq2'; cases hq2'), fun z => (by rw [z, h1] at hq2'; cases hq2')⟩
      have nq1d2 : q1 ≠ d2 := fun z => by
        rw [z, h2] at hq1
        cases hq1
      have fin : ∀ {b : Addr} {o : HO}, H2 b = some o → b ≠ d1 → b ≠ d2 → upd (upd (upd (upd H2 q1 (.lst (ms.map V.ref))) d1 (.dK (mby ls (cs.take i) ++ [((Sum.inr c.name : Key), V.ref q1)]))) q2 (.lst (fs.map V.ref))) d2 (.dK (fby ls (cs.take i) ++ [((Sum.inr c.name : Key), V.ref q2)])) b = some o := fun {b o} q m1 m2 => by
        rw [upd_ne m2, upd_ne (ne_of_none q hq2'), upd_ne m1, upd_ne (ne_of_none q hq1)]
        exact q
      have off : ∀ {b : Addr} {o : HO}, H2 b = some o → (∀ kvs, o ≠ .dK kvs) → b ≠ d1 ∧ b ≠ d2 := fun {b o} q hn => ⟨ne_of q h1 (hn _), ne_of q h2 (hn _)⟩
      have fin' : ∀ {b : Addr} {o : HO}, H2 b = some o → (∀ kvs, o ≠ .dK kvs) → upd (upd (upd (upd H2 q1 (.lst (ms.map V.ref))) d1 (.dK (mby ls (cs.take i) ++ [((Sum.inr c.name : Key), V.ref q1)]))) q2 (.lst (fs.map V.ref))) d2 (.dK (fby ls (cs.take i) ++ [((Sum.inr c.name : Key), V.ref q2)])) b = some o := fun {b o} q hn => fin q (off q hn).1 (off q hn).2
      rw [take_snoc hc]
      refine ⟨_, _, _, ls ++ [(q1, q2)], rfl, fun b o q hb => ?_, fin' hp2 (by intro _ z; cases z), ?_, ?_, ?_, ?_⟩
      · exact fin (kp b o q hb) (ne_of_none q d1H) (ne_of_none q d2H)
      · rw [upd_ne n12, upd_ne nq2d.2.symm, upd_same]
        unfold mby
        rw [List.zipWith_append hll] <;> rfl
      · rw [upd_same]
        unfold fby
        rw [List.zipWith_append hll] <;> rfl
      · rw [List.length_append, List.length_append, hll] <;> rfl
      · refine Paired.app (Paired.mapP pl fun a b q => ?_) (.cons ⟨⟨ms, ?_, Paired.mapP c3 fun t m q => fin' q (by intro _ z; cases z)⟩, ⟨fs, ?_, Paired.mapP c5 fun t m q => fin' q (by intro _ z; cases z)⟩⟩ .nil)
        · obtain ⟨⟨m', a1, a2⟩, ⟨f', a3, a4⟩⟩ := q
          exact ⟨⟨m', fin' a1 (by intro _ z; cases z), Paired.mapP a2 fun t m q => fin' q (by intro _ z; cases z)⟩, ⟨f', fin' a3 (by intro _ z; cases z), Paired.mapP a4 fun t m q => fin' q (by intro _ z; cases z)⟩⟩
        · rw [upd_ne nq1d2, upd_ne nq1q2, upd_ne nq1, upd_same]
        · rw [upd_ne nq2d.1, upd_same]
    · rintro σ H2 ⟨v2, v3, v4, ls, rfl, kp, hp2, h1, h2, hll, pl⟩
      rw [List.length_map, len, List.take_length] at h1 h2 pl
      exact k H2 ⟨dx, d1, d2, ls, hp2, h1, h2, pl⟩ kp
end
end Fw

/-! ==== FwW4 ==== -/
set_option Elab.async false
set_option linter.all false
set_option maxRecDepth 100000
set_option maxHeartbeats 4000000
/-! walks: what a sheet tells -/
namespace Fw
open PySem PySem.Spec PyProof.Rows L2 TL
section
variable {P : Program} {w : World} {K : PySem.W.Frag} {mg : Str → Option Value} {base : Heap}
def spNames (K : PySem.W.Frag) : Sp := fun vs H Q _ => ∃ (p : Addr) (cs : List Cue), vs = [.ref p] ∧ ShAt K H p cs ∧ SheetOk cs ∧ ∀ n, H n = none → Q (.ref n) (upd H n (.lst ((cs.map (·.name)).map V.str)))
abbrev nn_Sheet_names : List Str := ["self"]
theorem sc_Sheet_names : FnScope nn_Sheet_names ["self"] (defScope s_Sheet_names) := ⟨rfl, rfl, rfl, by decide +kernel, rfl, by decide +kernel, by decide +kernel⟩
theorem ok_Sheet_names (T : Tx K mg) : OkD P w K mg base CX0 1 ("Sheet", some "names") ["self"] (spNames K) := by
  refine OkD.mk T.f_Sheet_names sc_Sheet_names (fun _ _ _ _ _ _ us hl => match us, hl with | [_], _ => rfl) (fun vs H Q E h => ?_) (fun cdv A outer s H vs Q E hr h => ?_)
  · obtain ⟨p, cs, rfl, _⟩ := h
    rfl
  · obtain ⟨p, cs, rfl, A, S, k⟩ := h
    refine ⟨_, (pss_one (ps_ret (pe_callTy (call_list_dK rfl) (by rfl) T.b_list bv_list (pa_cons (pe_fld (pv 0) rfl) pa_nil)))), ?_⟩
    obtain ⟨dx, d1, d2, ls, hp, h1, h2, pl⟩ := A.ex
    refine ⟨_, rfl, p, _, dx, _, _, rfl, hp, T.cl_Sheet, T.na_moves_by, shF_m d1 d2, d1, _, rfl, h1, fun q hq => ?_⟩
    have e : (mby ls cs).map (fun kv => kV kv.1) = (cs.map (·.name)).map V.str := by_keys (f := fun e => e.1) pl.length
    rw [e]
    exact k q hq
theorem dget_m {H : Hp} {d : Addr} {ls : List (Addr × Addr)} {cs : List Cue} {e : Addr × Addr} {c : Cue} {i : Nat} (h : H d = some (.dK (mby ls cs))) (nd : (cs.map (·.name)).Nodup) (he : ls[i]? = some e) (hc : cs[i]? = some c) : DGet H d (.str c.name) (some (.ref e.1)) := by
  have q := DGet.k (k := Sum.inr c.name) h
  have z : valV (mby ls cs) (Sum.inr c.name) = some (.ref e.1) := by_some (f := fun e => e.1) nd he hc
  rw [z] at q
  exact q
theorem dget_f {H : Hp} {d : Addr} {ls : List (Addr × Addr)} {cs : List Cue} {e : Addr × Addr} {c : Cue} {i : Nat} (h : H d = some (.dK (fby ls cs))) (nd : (cs.map (·.name)).Nodup) (he : ls[i]? = some e) (hc : cs[i]? = some c) : DGet H d (.str c.name) (some (.ref e.2)) := by
  have q := DGet.k (k := Sum.inr c.name) h
  have z : valV (fby ls cs) (Sum.inr c.name) = some (.ref e.2) := by_some (f := fun e => e.2) nd he hc
  rw [z] at q
  exact q
def spNeedCue (K : PySem.W.Frag) : Sp := fun vs H Q _ => ∃ (p : Addr) (cs : List Cue) (i : Nat) (c : Cue), vs = [.ref p, .str c.name] ∧ ShAt K H p cs ∧ SheetOk cs ∧ cs[i]? = some c ∧ Q .non H
abbrev nn_Sheet_need_cue : List Str := ["self", "name"]
theorem sc_Sheet_need_cue : FnScope nn_Sheet_need_cue ["self", "name"] (defScope s_Sheet_need_cue) := ⟨rfl, rfl, rfl, by decide +kernel, rfl, by decide +kernel, by decide +kernel⟩
theorem ok_Sheet_need_cue (T : Tx K mg) : OkD P w K mg base CX0 1 ("Sheet", some "need_cue") ["self", "name"] (spNeedCue K) := by
  refine OkD.mk T.f_Sheet_need_cue sc_Sheet_need_cue (fun _ _ _ _ _ _ us hl => match us, hl with | [_, _], _ => rfl) (fun vs H Q E h => ?_) (fun cdv A outer s H vs Q E hr h => ?_)
  · obtain ⟨p, cs, i, c, rfl, _⟩ := h
    rfl
  · obtain ⟨p, cs, i, c, rfl, A, S, hc, k⟩ := h
    refine ⟨_, (pss_one (ps_if (PW.pt (pw_or (pt_not (pt_val (pe_callB call_isi (by rfl) T.b_isinstance bv_isinstance (pa_cons (pv 1) (pa_cons (pe_bltn (v := .ty "str") (by rfl) T.b_str bv_str rfl) pa_nil))))) (pw_or1 (pt_cmp (pc_dnotin (hu_of hr) (pv 1) (pe_fld (pv 0) rfl))))))
        (pss_one ps_never)
        pss_nil)), ?_⟩
    obtain ⟨dx, d1, d2, ls, hp, h1, h2, pl⟩ := A.ex
    obtain ⟨e, he, _⟩ := Paired.get2 pl hc
    refine ⟨_, rfl, _, _, _, _, true, rfl, .ty _, .base (.str _), kit_ty (by decide +kernel), true, rfl, iteF ?_⟩
    refine ⟨_, rfl, _, rfl, p, _, dx, _, _, rfl, hp, T.cl_Sheet, T.na_moves_by, shF_m d1 d2, d1, _, rfl, dget_m h1 S.nd he hc, ?_⟩
    exact ⟨_, rfl, iteF k⟩
def spSMoves (K : PySem.W.Frag) : Sp := fun vs H Q _ => ∃ (p : Addr) (cs : List Cue) (i : Nat) (c : Cue), vs = [.ref p, .str c.name] ∧ ShAt K H p cs ∧ SheetOk cs ∧ cs[i]? = some c ∧ ∀ H' a, Same H H' → MvsAt H' a c.moves → H a = none → Q (.ref a) H'
abbrev nn_Sheet_moves : List Str := ["self", "name"]
theorem sc_Sheet_moves : FnScope nn_Sheet_moves ["self", "name"] (defScope s_Sheet_moves) := ⟨rfl, rfl, rfl, by decide +kernel, rfl, by decide +kernel, by decide +kernel⟩
theorem ok_Sheet_moves (T : Tx K mg) : OkD P w K mg base CX0 2 ("Sheet", some "moves") ["self", "name"] (spSMoves K) := by
  obtain ⟨fd_Sheet_need_cue, G_Sheet_need_cue, b_Sheet_need_cue, k_Sheet_need_cue⟩ := ok_Sheet_need_cue (P := P) (w := w) (base := base) T
  refine OkD.mk T.f_Sheet_moves sc_Sheet_moves (fun _ _ _ _ _ _ us hl => match us, hl with | [_, _], _ => rfl) (fun vs H Q E h => ?_) (fun cdv A outer s H vs Q E hr h => ?_)
  · obtain ⟨p, cs, i, c, rfl, _⟩ := h
    rfl
  · obtain ⟨p, cs, i, c, rfl, A, S, hc, k⟩ := h
    have hr_Sheet_need_cue : Room 1 _ := hr.mono (by decide)
    refine ⟨_, (pss_cons (ps_expr (pe_meth (pv 0) T.cl_Sheet T.m_Sheet_need_cue G_Sheet_need_cue hr_Sheet_need_cue b_Sheet_need_cue .nil pass0 (pa_cons (pv 1) pa_nil)))
      (pss_one (ps_ret (pe_callTy call_list_of (by rfl) T.b_list bv_list (pa_cons (pe_dget (hu_of hr) (pe_fld (pv 0) rfl) (pv 1) (fun _ _ => rfl)) pa_nil))))), ?_⟩
    obtain ⟨dx, d1, d2, ls, hp, h1, h2, pl⟩ := A.ex
    obtain ⟨e, he, la, _⟩ := Paired.get2 pl hc
    obtain ⟨ts, hm, pm⟩ := la
    refine ⟨_, rfl, p, dx, _, rfl, hp, shF_no d1 d2 (by decide +kernel) (by decide +kernel), _, rfl, p, cs, i, c, rfl, A, S, hc, ?_⟩
    refine ⟨_, rfl, p, _, dx, _, _, rfl, hp, T.cl_Sheet, T.na_moves_by, shF_m d1 d2, _, rfl, d1, _, rfl, dget_m h1 S.nd he hc, ?_⟩
    refine ⟨e.1, _, rfl, .inl (SqL.of hm), fun q hq => ?_⟩
    exact k _ q (same_new hq) ⟨ts, upd_same, Paired.mapP pm fun t m z => same_new hq _ _ z⟩ hq
def spSFols (K : PySem.W.Frag) : Sp := fun vs H Q _ => ∃ (p : Addr) (cs : List Cue) (i : Nat) (c : Cue), vs = [.ref p, .str c.name] ∧ ShAt K H p cs ∧ SheetOk cs ∧ cs[i]? = some c ∧ ∀ H' a, Same H H' → FosAt H' a c.fols → H a = none → Q (.ref a) H'
abbrev nn_Sheet_followers : List Str := ["self", "name"]
theorem sc_Sheet_followers : FnScope nn_Sheet_followers ["self", "name"] (defScope s_Sheet_followers) := ⟨rfl, rfl, rfl, by decide +kernel, rfl, by decide +kernel, by decide +kernel⟩
theorem ok_Sheet_followers (T : Tx K mg) : OkD P w K mg base CX0 2 ("Sheet", some "followers") ["self", "name"] (spSFols K) := by
  obtain ⟨fd_Sheet_need_cue, G_Sheet_need_cue, b_Sheet_need_cue, k_Sheet_need_cue⟩ := ok_Sheet_need_cue (P := P) (w := w) (base := base) T
  refine OkD.mk T.f_Sheet_followers sc_Sheet_followers (fun _ _ _ _ _ _ us hl => match us, hl with | [_, _], _ => rfl) (fun vs H Q E h => ?_) (fun cdv A outer s H vs Q E hr h => ?_)
  · obtain ⟨p, cs, i, c, rfl, _⟩ := h
    rfl
  · obtain ⟨p, cs, i, c, rfl, A, S, hc, k⟩ := h
    have hr_Sheet_need_cue : Room 1 _ := hr.mono (by decide)
    refine ⟨_, (pss_cons (ps_expr (pe_meth (pv 0) T.cl_Sheet T.m_Sheet_need_cue G_Sheet_need_cue hr_Sheet_need_cue b_Sheet_need_cue .nil pass0 (pa_cons (pv 1) pa_nil)))
      (pss_one (ps_ret (pe_callTy call_list_of (by rfl) T.b_list bv_list (pa_cons (pe_dget (hu_of hr) (pe_fld (pv 0) rfl) (pv 1) (fun _ _ => rfl)) pa_nil))))), ?_⟩
    obtain ⟨dx, d1, d2, ls, hp, h1, h2, pl⟩ := A.ex
    obtain ⟨e, he, _, la⟩ := Paired.get2 pl hc
    obtain ⟨ts, hm, pm⟩ := la
    refine ⟨_, rfl, p, dx, _, rfl, hp, shF_no d1 d2 (by decide +kernel) (by decide +kernel), _, rfl, p, cs, i, c, rfl, A, S, hc, ?_⟩
    refine ⟨_, rfl, p, _, dx, _, _, rfl, hp, T.cl_Sheet, T.na_followers_by, shF_f d1 d2, _, rfl, d2, _, rfl, dget_f h2 S.nd he hc, ?_⟩
    refine ⟨e.2, _, rfl, .inl (SqL.of hm), fun q hq => ?_⟩
    exact k _ q (same_new hq) ⟨ts, upd_same, Paired.mapP pm fun t m z => same_new hq _ _ z⟩ hq
def spSCues (K : PySem.W.Frag) : Sp := fun vs H Q _ => ∃ (p : Addr) (cs : List Cue), vs = [.ref p] ∧ ShAt K H p cs ∧ SheetOk cs ∧ ∀ H' l es, Same H H' → CuesAt H' l es cs → H l = none → (∀ a ∈ foot es, H a = none) → Q (.ref l) H'
abbrev nn_Sheet_cues : List Str := ["self", "name"]
theorem sc_Sheet_cues : FnScope nn_Sheet_cues ["self"] (defScope s_Sheet_cues) := ⟨rfl, rfl, rfl, by decide +kernel, rfl, by decide +kernel, by decide +kernel⟩
theorem ok_Sheet_cues (T : Tx K mg) : OkD P w K mg base CX0 3 ("Sheet", some "cues") ["self"] (spSCues K) := by
  obtain ⟨fd_Sheet_followers, G_Sheet_followers, b_Sheet_followers, k_Sheet_followers⟩ := ok_Sheet_followers (P := P) (w := w) (base := base) T
  obtain ⟨fd_Sheet_moves, G_Sheet_moves, b_Sheet_moves, k_Sheet_moves⟩ := ok_Sheet_moves (P := P) (w := w) (base := base) T
  obtain ⟨fd_Sheet_names, G_Sheet_names, b_Sheet_names, k_Sheet_names⟩ := ok_Sheet_names (P := P) (w := w) (base := base) T
  refine OkD.mk T.f_Sheet_cues sc_Sheet_cues (fun _ _ _ _ _ _ us hl => match us, hl with | [_], _ => rfl) (fun vs H Q E h => ?_) (fun cdv A outer s H vs Q E hr h => ?_)
  · obtain ⟨p, cs, rfl, _⟩ := h
    rfl
  · obtain ⟨p, cs, rfl, A, S, k⟩ := h
    have hr_Sheet_followers : Room 2 _ := hr.mono (by decide)
    have hr_Sheet_moves : Room 2 _ := hr.mono (by decide)
    have hr_Sheet_names : Room 1 _ := hr.mono (by decide)
    refine ⟨_, (pss_one (ps_ret (pe_lc (g := gName 1) (own := [("name", 1)]) rfl sc_Sheet_cues.nd (pi_list (pe_meth0 (pv 0) T.cl_Sheet T.m_Sheet_names G_Sheet_names hr_Sheet_names b_Sheet_names .nil pass0)) (blkOk_by (own := [("name", 1)]) (N := nn_Sheet_cues) (sc := defScope s_Sheet_cues) (by decide +kernel)) (fun _ _ _ _ _ => (pg_name (i := 1) sc_Sheet_cues.nd rfl (Or.inl rfl))) (fun _ _ _ _ _ => pts_nil) (fun _ _ _ _ _ => (pe_tup (pa_cons (pv 1) (pa_cons (pe_meth (pv 0) T.cl_Sheet T.m_Sheet_moves G_Sheet_moves hr_Sheet_moves b_Sheet_moves .nil pass0 (pa_cons (pv 1) pa_nil)) (pa_cons (pe_meth (pv 0) T.cl_Sheet T.m_Sheet_followers G_Sheet_followers hr_Sheet_followers b_Sheet_followers .nil pass0 (pa_cons (pv 1) pa_nil)) pa_nil)))))))), ?_⟩
    obtain ⟨dx, d1, d2, ls, hp, _⟩ := A.ex
    refine ⟨_, rfl, p, dx, _, rfl, hp, shF_no d1 d2 (by decide +kernel) (by decide +kernel), p, cs, rfl, A, S, fun n hn => ?_⟩
    have s1 := same_new (o := .lst ((cs.map (·.name)).map V.str)) hn
    refine ⟨n, rfl, ⟨_, SqL.of upd_same⟩, fun D hD => ?_⟩
    have hDH : H D = none := s1.free hD
    have hlen : ((cs.map (·.name)).map V.str).length = cs.length := by rw [List.length_map, List.length_map]
    have hsz : cs.length < sizeLine := Nat.lt_of_le_of_lt S.len.2 (by decide)
    refine lc_it (walk_list (xs := (cs.map (·.name)).map V.str)) (fun i H2 => Same (upd H n (.lst ((cs.map (·.name)).map V.str))) H2 ∧ ∃ es : List Trip, H2 D = some (.lst (es.map fun e => V.ref e.1)) ∧ es.length = i ∧ Paired (CueAt H2) es (cs.take i) ∧ ∀ a ∈ foot es, H a = none ∧ a ≠ D) ?_ (fun i H2 _ h => h.1.seq (SqL.of upd_same)) (fun j x H0x H2 hj h hy => ?_) (fun H2 h => ?_)
    · exact ⟨same_new hD, [], upd_same, rfl, .nil, fun a ha => (by cases ha)⟩
    · obtain ⟨rfl, hx⟩ := hy
      obtain ⟨s2, es, hDe, hl, pc, fr⟩ := h
      rw [List.getElem?_map, List.getElem?_map] at hx
      cases hcc : cs[j]? with
      | none =>
        rw [hcc] at hx
        cases hx
      | some c =>
        rw [hcc] at hx
        obtain rfl := Option.some.inj hx
        have A2 := (A.same s1).same s2
        refine ⟨rfl, yes_of ?_⟩
        refine ⟨_, rfl, _, rfl, p, dx, _, rfl, s2 _ _ (s1 _ _ hp), shF_no d1 d2 (by decide +kernel) (by decide +kernel), _, rfl, p, cs, j, c, rfl, A2, S, hcc, fun H3 a s3 ma fa => ?_⟩
        refine ⟨_, rfl, p, dx, _, rfl, s3 _ _ (s2 _ _ (s1 _ _ hp)), shF_no d1 d2 (by decide +kernel) (by decide +kernel), _, rfl, p, cs, j, c, rfl, A2.same s3, S, hcc, fun H4 b s4 fb fb0 => ?_⟩
        refine ⟨(by show 3 ≤ sizeLine; decide), fun t ht => ?_⟩
        have s5 := same_new (o := .tup [.str c.name, .ref a, .ref b]) ht
        have s25 := (s3.trans s4).trans s5
        have hD5 := s25 _ _ hDe
        have aD : a ≠ D := fun z => by
          rw [z, hDe] at fa
          cases fa
        have bD : b ≠ D := fun z => by
          rw [z, s3 _ _ hDe] at fb0
          cases fb0
        have tD : t ≠ D := fun z => by
          rw [z, s4 _ _ (s3 _ _ hDe)] at ht
          cases ht
        refine ⟨_, hD5, by rw [List.length_map]; omega, fun q o e => ?_, es ++ [(t, a, b)], by rw [upd_same, List.map_append] <;> rfl, by rw [List.length_append, hl] <;> rfl, ?_, fun q hq => ?_⟩
        · rw [upd_ne (ne_of_none e hD)]
          exact s25 _ _ (s2 _ _ e)
        · rw [take_snoc hcc]
          refine Paired.app (Paired.impM pc fun e d he hd z => ?_) (.cons ?_ .nil)
          · obtain ⟨m1, m2⟩ := foot_mem he
            exact (z.same s25).upd hD5 (fr _ m1).2 (fr _ m2).2
          · exact CueAt.upd (e := (t, a, b)) (c := c) ⟨upd_same, (ma.same s4).same s5, fb.same s5⟩ hD5 aD bD
        · rw [foot_app] at hq
          rcases List.mem_append.mp hq with hq | hq
          · exact fr q hq
          · rw [foot_one] at hq
            have s02 := s1.trans s2
            rcases List.mem_cons.mp hq with z | hq
            · rw [z]
              exact ⟨s02.free fa, aD⟩
            · rw [List.mem_singleton.mp hq]
              exact ⟨(s02.trans s3).free fb0, bD⟩
    · obtain ⟨s2, es, hDe, hl, pc, fr⟩ := h
      rw [hlen, List.take_length] at pc
      exact k H2 D es (s1.trans s2) ⟨hDe, pc⟩ hDH fun a ha => (fr a ha).1
end
end Fw

/-! ==== FwW5 ==== -/
set_option Elab.async false
set_option linter.all false
set_option maxRecDepth 100000
set_option maxHeartbeats 4000000
/-! walks: a sheet's text -/
namespace Fw
open PySem PySem.Spec PyProof.Rows L2 TL
section
variable {P : Program} {w : World} {K : PySem.W.Frag} {mg : Str → Option Value} {base : Heap}
theorem But.cue {d : Addr} {H H' : Hp} {e : Trip} {c : Cue} {xs : List V} (b : But d H H') (hd : H d = some (.lst xs)) (h : CueAt H e c) (n1 : e.2.1 ≠ d) (n2 : e.2.2 ≠ d) : CueAt H' e c := by
  obtain ⟨c1, ⟨ms, c2, c3⟩, ⟨fs, c4, c5⟩⟩ := h
  have tup : ∀ {t : Addr} {zs : List V}, H t = some (.tup zs) → H' t = some (.tup zs) := fun {t zs} q => b _ _ q (ne_of q hd (by intro z; cases z))
  exact ⟨tup c1, ⟨ms, b _ _ c2 n1, Paired.mapP c3 fun t m q => tup q⟩, ⟨fs, b _ _ c4 n2, Paired.mapP c5 fun t m q => tup q⟩⟩
theorem cue_addrs {H : Hp} {e : Trip} {c : Cue} {cs : List Cue} {es : List Trip} (h : Paired (CueAt H) es cs) {i : Nat} (he : es[i]? = some e) : e ∈ es := List.mem_of_getElem? he
theorem fm_all {α β : Type} (l : List α) (f : α → β) (g : β → V) : (List.range l.length).filterMap (fun j => l[j]?.map fun a => g (f a)) = (l.map f).map g := by
  rw [range_map, List.map_map] <;> rfl
theorem moveRow_sum {m : Str × Int × Int} (z : mvSm m) : (Str.ofString "move ").length + m.1.length + (Str.ofString " ").length + (Str.ofString (toString m.2.1)).length + (Str.ofString " ").length + (Str.ofString (toString m.2.2)).length ≤ 40 := by
  have zl := moveRow_len z
  unfold moveRow at zl
  rw [PySem.Str.length_append, PySem.Str.length_append, PySem.Str.length_append, PySem.Str.length_append, PySem.Str.length_append] at zl
  exact zl
theorem thenRow_sum {m : Str × Int} (z : foSm m) : (Str.ofString "then ").length + m.1.length + (Str.ofString " ").length + (Str.ofString (toString m.2)).length ≤ 40 := by
  have zl := thenRow_len z
  unfold thenRow at zl
  rw [PySem.Str.length_append, PySem.Str.length_append, PySem.Str.length_append] at zl
  exact zl
def spSText (K : PySem.W.Frag) : Sp := fun vs H Q _ => ∃ (p : Addr) (cs : List Cue), vs = [.ref p] ∧ ShAt K H p cs ∧ SheetOk cs ∧ ∀ H', Same H H' → Q (.str (sheetText cs)) H'
abbrev nn_Sheet_text : List Str := ["self", "rows", "name", "moves", "followers", "one", "goal", "wait", "other"]
theorem sc_Sheet_text : FnScope nn_Sheet_text ["self"] (defScope s_Sheet_text) := ⟨rfl, rfl, rfl, by decide +kernel, rfl, by decide +kernel, by decide +kernel⟩
theorem ok_Sheet_text (T : Tx K mg) : OkD P w K mg base CX0 4 ("Sheet", some "text") ["self"] (spSText K) := by
  obtain ⟨fd_Sheet_cues, G_Sheet_cues, b_Sheet_cues, k_Sheet_cues⟩ := ok_Sheet_cues (P := P) (w := w) (base := base) T
  refine OkD.mk T.f_Sheet_text sc_Sheet_text (fun _ _ _ _ _ _ us hl => match us, hl with | [_], _ => rfl) (fun vs H Q E h => ?_) (fun cdv A outer s H vs Q E hr h => ?_)
  · obtain ⟨p, cs, rfl, _⟩ := h
    rfl
  · obtain ⟨p, cs, rfl, A, S, k⟩ := h
    have hr_Sheet_cues : Room 3 _ := hr.mono (by decide)
    refine ⟨_, (pss_cons (ps_set (i := 1) sc_Sheet_text.nd rfl (Or.inl rfl) (pe_lst pa_nil))
      (pss_cons (ps_for PassesOwn.never rfl (pi_list (pe_meth0 (pv 0) T.cl_Sheet T.m_Sheet_cues G_Sheet_cues hr_Sheet_cues b_Sheet_cues .nil pass0)) (pg_tup rfl (pgs_cons (pg_name (i := 2) sc_Sheet_text.nd rfl (Or.inl rfl)) (pgs_cons (pg_name (i := 3) sc_Sheet_text.nd rfl (Or.inl rfl)) (pgs_cons (pg_name (i := 4) sc_Sheet_text.nd rfl (Or.inl rfl)) pgs_nil))))
        (pss_cons (ps_expr (pe_bm PySem.F.plainAttrs_list PySem.F.slot_list_append PySem.F.type_list_append mt_append (pv 1) (pa_cons (pe_op op_add_str pe_str (pv 2)) pa_nil)))
          (pss_cons (ps_expr (pe_bm PySem.F.plainAttrs_list PySem.F.slot_list_extend PySem.F.type_list_extend mt_extend (pv 1) (pa_cons (pe_lc (g := gTup K 3 (gCons (gName 5) (gCons (gName 6) (gCons (gName 7) gNil)))) (own := [("one", 5), ("goal", 6), ("wait", 7)]) rfl sc_Sheet_text.nd (pi_list (pv 3)) (blkOk_by (own := [("one", 5), ("goal", 6), ("wait", 7)]) (N := nn_Sheet_text) (sc := defScope s_Sheet_text) (by decide +kernel)) (fun _ _ _ _ _ => (pg_tup rfl (pgs_cons (pg_name (i := 5) sc_Sheet_text.nd rfl (Or.inl rfl)) (pgs_cons (pg_name (i := 6) sc_Sheet_text.nd rfl (Or.inl rfl)) (pgs_cons (pg_name (i := 7) sc_Sheet_text.nd rfl (Or.inl rfl)) pgs_nil))))) (fun _ _ _ _ _ => pts_nil) (fun _ _ _ _ _ => (pe_op op_add_str (pe_op op_add_str (pe_op op_add_str (pe_op op_add_str (pe_op op_add_str pe_str (pv 5)) pe_str) (pe_callTy call_str_int (by rfl) T.b_str bv_str (pa_cons (pv 6) pa_nil))) pe_str) (pe_callTy call_str_int (by rfl) T.b_str bv_str (pa_cons (pv 7) pa_nil))))) pa_nil)))
          (pss_one (ps_expr (pe_bm PySem.F.plainAttrs_list PySem.F.slot_list_extend PySem.F.type_list_extend mt_extend (pv 1) (pa_cons (pe_lc (g := gTup K 2 (gCons (gName 8) (gCons (gName 7) gNil))) (own := [("other", 8), ("wait", 7)]) rfl sc_Sheet_text.nd (pi_list (pv 4)) (blkOk_by (own := [("other", 8), ("wait", 7)]) (N := nn_Sheet_text) (sc := defScope s_Sheet_text) (by decide +kernel)) (fun _ _ _ _ _ => (pg_tup rfl (pgs_cons (pg_name (i := 8) sc_Sheet_text.nd rfl (Or.inl rfl)) (pgs_cons (pg_name (i := 7) sc_Sheet_text.nd rfl (Or.inl rfl)) pgs_nil)))) (fun _ _ _ _ _ => pts_nil) (fun _ _ _ _ _ => (pe_op op_add_str (pe_op op_add_str (pe_op op_add_str pe_str (pv 8)) pe_str) (pe_callTy call_str_int (by rfl) T.b_str bv_str (pa_cons (pv 7) pa_nil))))) pa_nil)))))))
      (pss_one (ps_ret (pe_join pe_str (pv 1)))))), ?_⟩
    obtain ⟨dx, d1, d2, ls, hp, _⟩ := A.ex
    refine ⟨Nat.zero_le _, fun r hr => ?_⟩
    have s1 := same_new (o := .lst []) hr
    refine ⟨_, rfl, p, dx, _, rfl, s1 _ _ hp, shF_no d1 d2 (by decide +kernel) (by decide +kernel), p, cs, rfl, A.same s1, S, fun H1 l es s2 C nl nf => ?_⟩
    refine ⟨l, rfl, ⟨_, SqL.of C.1⟩, ?_⟩
    have hr1 : H1 r = some (.lst []) := s2 _ _ upd_same
    have lr : l ≠ r := fun z => by
      rw [z, upd_same] at nl
      cases nl
    have fr : ∀ a ∈ foot es, a ≠ r := fun a ha z => by
      have q := nf a ha
      rw [z, upd_same] at q
      cases q
    have len := C.2.length
    have sm : ∀ c ∈ cs, c.Sm := fun c hc => (S.w c hc).sm
    have l12 := S.len.2
    refine for_it (walk_list (xs := es.map fun e => V.ref e.1)) (fun i σ H2 => ∃ (v2 v3 v4 : Option V), σ = [some (.ref p), some (.ref r), v2, v3, v4, none, none, none, none] ∧ But r H1 H2 ∧ H2 r = some (.lst ((allRows (cs.take i)).map V.str))) ?_ ?_ ?_ ?_
    · exact ⟨none, none, none, rfl, But.refl _ _, hr1⟩
    · rintro i σ H2 hi ⟨v2, v3, v4, rfl, b, hr2⟩
      exact SqL.of (b _ _ C.1 lr)
    · rintro i x σ H0x H2 hi ⟨v2, v3, v4, rfl, b, hr2⟩ ⟨rfl, hx⟩
      rw [List.getElem?_map] at hx
      obtain ⟨e, he, rfl⟩ := Option.map_eq_some_iff.mp hx
      obtain ⟨c, hc, ce⟩ := Paired.get C.2 he
      obtain ⟨m1, m2⟩ := foot_mem (List.mem_of_getElem? he)
      have ce2 : CueAt H2 e c := b.cue hr1 ce (fr _ m1) (fr _ m2)
      have cm := List.mem_of_getElem? hc
      have csm := sm c cm
      refine ⟨e.1, _, rfl, SqT.of ce2.1, rfl, _, _, rfl, _, _, rfl, _, _, rfl, rfl, ?_⟩
      have room : (allRows (cs.take i)).length ≤ 144 := Nat.le_trans (allRows_take sm i) (by omega)
      have big : 1000 < sizeLine := by decide
      -- rows.append('cue ' + name)
      refine ⟨_, rfl, .inl ⟨rfl, _, SqL.of hr2⟩, _, rfl, _, _, rfl, rfl, ?_, r, _, _, rfl, rfl, hr2, by rw [List.length_map]; omega, ?_⟩
      · rw [cueW_len]
        have := csm.n
        omega
      -- rows.extend([... for one, goal, wait in moves])
      have ce3 : CueAt (upd H2 r (.lst ((allRows (cs.take i)).map V.str ++ [V.str (cueRow c)]))) e c := ce2.upd hr2 (fr _ m1) (fr _ m2)
      obtain ⟨_, ⟨ms, hm, pm⟩, _⟩ := ce3
      refine ⟨_, rfl, .inl ⟨rfl, _, SqL.of upd_same⟩, _, rfl, e.2.1, rfl, ⟨_, SqL.of hm⟩, fun D hD => ?_⟩
      refine lc_f (walk_list (xs := ms.map V.ref)) (fun j => c.moves[j]?.map fun m => V.str (moveRow m)) (by rw [List.length_map, pm.length]; have := csm.ml; omega) hD (fun H3 s3 => s3.seq (SqL.of hm)) (fun j x H3x H3 N N0 hj s3 hy kN _ => ?_) (fun H3 s3 eD => ?_)
      · obtain ⟨rfl, hx⟩ := hy
        rw [List.getElem?_map] at hx
        obtain ⟨u, hu, rfl⟩ := Option.map_eq_some_iff.mp hx
        obtain ⟨m, hmm, hmu⟩ := Paired.get pm hu
        have z := csm.m m (List.mem_of_getElem? hmm)
        have zl := moveRow_sum z
        refine ⟨u, _, rfl, SqT.of (s3 _ _ hmu), rfl, _, _, rfl, _, _, rfl, _, _, rfl, rfl, rfl, yes_of ?_⟩
        refine ⟨_, rfl, _, _, rfl, rfl, ?_, _, _, rfl, rfl, ?_, ⟨_, rfl, _, rfl, log_ok z.2.1.1 z.2.1.2, _, _, rfl, rfl, ?_, _, _, rfl, rfl, ?_, ⟨_, rfl, _, rfl, log_ok (by omega) (by omega), _, _, rfl, rfl, ?_, kN _ _ ?_ (Same.refl _)⟩⟩⟩
        · omega
        · rw [PySem.Str.length_append]
          omega
        · rw [PySem.Str.length_append, PySem.Str.length_append]
          omega
        · rw [PySem.Str.length_append, PySem.Str.length_append, PySem.Str.length_append]
          omega
        · rw [PySem.Str.length_append, PySem.Str.length_append, PySem.Str.length_append, PySem.Str.length_append]
          omega
        · rw [hmm]
          rfl
      · have eD' : H3 D = some (.lst ((c.moves.map moveRow).map V.str)) := by
          rw [eD, List.length_map, pm.length, fm_all]
        have hr3 := s3 _ _ (upd_same (H := H2) (a := r) (o := .lst ((allRows (cs.take i)).map V.str ++ [V.str (cueRow c)])))
        have nrD : r ≠ D := fun z => by
          rw [← z, upd_same] at hD
          cases hD
        have ml := csm.ml
        have fl := csm.fl
        refine ⟨r, D, _, _, rfl, rfl, hr3, eD', by rw [List.length_append, List.length_map, List.length_map, List.length_map, List.length_singleton]; omega, ?_⟩
        -- rows.extend([... for other, wait in followers])
        have ce4 : CueAt (upd H3 r (.lst (((allRows (cs.take i)).map V.str ++ [V.str (cueRow c)]) ++ (c.moves.map moveRow).map V.str))) e c := ((ce2.upd hr2 (fr _ m1) (fr _ m2)).same s3).upd hr3 (fr _ m1) (fr _ m2)
        obtain ⟨_, _, ⟨fs, hf, pf⟩⟩ := ce4
        refine ⟨_, rfl, .inl ⟨rfl, _, SqL.of upd_same⟩, _, rfl, e.2.2, rfl, ⟨_, SqL.of hf⟩, fun D2 hD2 => ?_⟩
        refine lc_f (walk_list (xs := fs.map V.ref)) (fun j => c.fols[j]?.map fun m => V.str (thenRow m)) (by rw [List.length_map, pf.length]; omega) hD2 (fun H4 s4 => s4.seq (SqL.of hf)) (fun j x H4x H4 N N0 hj s4 hy kN _ => ?_) (fun H4 s4 eD2 => ?_)
        · obtain ⟨rfl, hx⟩ := hy
          rw [List.getElem?_map] at hx
          obtain ⟨u, hu, rfl⟩ := Option.map_eq_some_iff.mp hx
          obtain ⟨m, hmm, hmu⟩ := Paired.get pf hu
          have z := csm.f m (List.mem_of_getElem? hmm)
          have zl := thenRow_sum z
          refine ⟨u, _, rfl, SqT.of (s4 _ _ hmu), rfl, _, _, rfl, _, _, rfl, rfl, rfl, yes_of ?_⟩
          refine ⟨_, rfl, _, _, rfl, rfl, ?_, _, _, rfl, rfl, ?_, ⟨_, rfl, _, rfl, log_ok (by omega) (by omega), _, _, rfl, rfl, ?_, kN _ _ ?_ (Same.refl _)⟩⟩
          · omega
          · rw [PySem.Str.length_append]
            omega
          · rw [PySem.Str.length_append, PySem.Str.length_append]
            omega
          · rw [hmm]
            rfl
        · have eD2' : H4 D2 = some (.lst ((c.fols.map thenRow).map V.str)) := by
            rw [eD2, List.length_map, pf.length, fm_all]
          have hr4 := s4 _ _ (upd_same (H := H3) (a := r) (o := .lst (((allRows (cs.take i)).map V.str ++ [V.str (cueRow c)]) ++ (c.moves.map moveRow).map V.str)))
          refine ⟨r, D2, _, _, rfl, rfl, hr4, eD2', by rw [List.length_append, List.length_append, List.length_map, List.length_map, List.length_map, List.length_map, List.length_map, List.length_singleton]; omega, ?_⟩
          refine ⟨_, _, _, rfl, fun b0 o e0 hb => ?_, ?_⟩
          · rw [upd_ne hb]
            refine s4 _ _ ?_
            rw [upd_ne hb]
            refine s3 _ _ ?_
            rw [upd_ne hb]
            exact b _ _ e0 hb
          · rw [upd_same, take_snoc hc, allRows_snoc]
            unfold cueRows
            simp [List.map_append]
    · rintro σ H2 ⟨v2, v3, v4, rfl, b, hr2⟩
      rw [List.length_map, len, List.take_length] at hr2
      refine ⟨⟨_, rfl⟩, _, rfl, _, r, _, rfl, rfl, .inl (SqL.of hr2), ?_, ?_⟩
      · exact join_room (by decide +kernel) (allRows_lens sm).1 (by omega)
      · refine k H2 fun b0 o e0 => ?_
        exact b _ _ (s2 _ _ (s1 _ _ e0)) (ne_of_none e0 hr)
end
end Fw

/-! ==== FwW6 ==== -/
set_option Elab.async false
set_option linter.all false
set_option maxRecDepth 100000
set_option maxHeartbeats 4000000
/-! walks: read_sheet -/
namespace Fw
open PySem PySem.Spec PyProof.Rows L2 TL
section
variable {P : Program} {w : World} {K : PySem.W.Frag} {mg : Str → Option Value} {base : Heap}
def spBRInit (K : PySem.W.Frag) : Sp := fun vs H Q _ => ∃ (a : Addr) (k : Int), vs = [.ref a, .int k] ∧ H a = some (exo a (aBR K) none) ∧ ∀ d, H d = none → d ≠ a → Q .non (upd (upd H d (exd d [("row", .int k)])) a (exo a (aBR K) (some d)))
abbrev nn_BadRow_init : List Str := ["self", "row"]
theorem sc_BadRow_init : FnScope nn_BadRow_init ["self", "row"] (defScope s_BadRow_init) := ⟨rfl, rfl, rfl, by decide +kernel, rfl, by decide +kernel, by decide +kernel⟩
theorem ok_BadRow_init (T : Tx K mg) : OkD P w K mg base CX0 1 ("BadRow", some "__init__") ["self", "row"] (spBRInit K) := by
  refine OkD.mk T.f_BadRow_init sc_BadRow_init (fun _ _ _ _ _ _ us hl => match us, hl with | [_, _], _ => rfl) (fun vs H Q E h => ?_) (fun cdv A outer s H vs Q E hr h => ?_)
  · obtain ⟨a, k, rfl, _⟩ := h
    rfl
  · obtain ⟨a, k, rfl, ha, q⟩ := h
    refine ⟨_, pss_cons (ps_expr (pe_sinit T.br (by rfl) T.g_StageError (pa_cons (pv 0) (pa_cons pe_str pa_nil)))) (pss_one (ps_ost (pv 0) (pv 1))), ?_⟩
    refine ⟨_, rfl, a, aBR K, _, rfl, (by show 1 ≤ 1000; decide), T.br.oex, ha, ?_⟩
    exact ⟨_, rfl, _, rfl, a, aBR K, rfl, T.br.oex, T.br.noRow, .inl ⟨ha, fun d hd n => q d hd n⟩⟩
/-- raise BadRow(k) -/
theorem row_end {H1 : Hp} {k : Int} {Q : XK} (q : ∀ H' d, Same H1 H' → H' d = some (.xd [("row", .int k)]) → Q (.ref (aBR K)) (some d) H') : [V.int k].length ≤ 1000 ∧ ∀ a, H1 a = none → spBRInit K (.ref a :: ([V.int k] ++ [])) (upd H1 a (exo a (aBR K) none))
    (fun v H2 => v = .non ∧ ∃ (d : Addr) (fs : List (Str × V)), H2 a = some (exo a (aBR K) (some d)) ∧ H2 d = some (exd d fs) ∧ H1 d = none ∧ Q (.ref (aBR K)) (some d) (upd (del H2 a) d (.xd fs))) (fun _ _ _ => False) := by
  refine ⟨(by show 1 ≤ 1000; decide), fun a ha => ⟨a, k, rfl, upd_same, fun d hd n => ⟨rfl, d, [("row", .int k)], upd_same, ?_, ?_, ?_⟩⟩⟩
  · rw [upd_ne n, upd_same]
  · rw [upd_ne n] at hd
    exact hd
  · have hd1 : H1 d = none := by
      rw [upd_ne n] at hd
      exact hd
    refine q _ d (fun b o e => ?_) upd_same
    have nb : b ≠ a := ne_of_none e ha
    have nd : b ≠ d := ne_of_none e hd1
    rw [upd_ne nd, del_ne nb, upd_ne nb, upd_ne nd, upd_ne nb]
    exact e
def spRead (K : PySem.W.Frag) : Sp := fun vs H Q E =>
  (∃ x : Str, vs = [.str x] ∧ x.length ≤ 900000 ∧ (∀ (k : Nat) H' d, readOf x = .inl k → Same H H' → H' d = some (.xd [("row", .int k)]) → E (.ref (aBR K)) (some d) H') ∧ ∀ cs p H', readOf x = .inr cs → Same H H' → ShAt K H' p cs → Q (.ref p) H') ∨
  ∃ (v : V) (t : String), vs = [v] ∧ TyX K H v (.type t) ∧ kitB t "str" = some false ∧ ∀ H' d, Same H H' → H' d = some (.xd [("row", .int 1)]) → E (.ref (aBR K)) (some d) H'
theorem rowsIn_cons (cs : List Cue) (r : Str) (rs : List Str) (k : Nat) : rowsIn cs (r :: rs) k = match rowIn cs (Txt.split r sBl) with | none => .inl (k + 1) | some cs' => rowsIn cs' rs (k + 1) := rfl
theorem drop_get {α : Type} {l : List α} {i : Nat} {x : α} (h : l[i]? = some x) : l.drop i = x :: l.drop (i + 1) := by
  obtain ⟨hi, e⟩ := List.getElem?_eq_some_iff.mp h
  rw [List.drop_eq_getElem_cons hi, e]
abbrev nn_read_sheet : List Str := ["text", "reader", "rows", "number", "row"]
theorem sc_read_sheet : FnScope nn_read_sheet ["text"] (defScope s_read_sheet) := ⟨rfl, rfl, rfl, by decide +kernel, rfl, by decide +kernel, by decide +kernel⟩
theorem ok_read_sheet (T : Tx K mg) : OkD P w K mg base (L2.CX P w) 7 ("read_sheet", none) ["text"] (spRead K) := by
  obtain ⟨fd_BadRow_init, G_BadRow_init, b_BadRow_init, k_BadRow_init⟩ := ok_BadRow_init (P := P) (w := w) (base := base) T
  obtain ⟨fd_Sheet_init, G_Sheet_init, b_Sheet_init, k_Sheet_init⟩ := ok_Sheet_init (P := P) (w := w) (base := base) T
  obtain ⟨fd_SheetReader_init, G_SheetReader_init, b_SheetReader_init, k_SheetReader_init⟩ := ok_SheetReader_init (P := P) (w := w) (base := base) T
  obtain ⟨fd_SheetReader_is_open, G_SheetReader_is_open, b_SheetReader_is_open, k_SheetReader_is_open⟩ := ok_SheetReader_is_open (P := P) (w := w) (base := base) T
  obtain ⟨fd_SheetReader_takes, G_SheetReader_takes, b_SheetReader_takes, k_SheetReader_takes⟩ := ok_SheetReader_takes (P := P) (w := w) (base := base) T
  refine OkD.mkX T.f_read_sheet sc_read_sheet (fun _ _ _ _ _ _ us hl => match us, hl with | [_], _ => rfl) (fun vs H Q E h => ?_) (fun cdv A outer s H vs Q E hr h => ?_)
  · rcases h with ⟨x, rfl, _⟩ | ⟨v, t, rfl, _⟩ <;> rfl
  · skip
    have hr_BadRow_init : Room 2 _ := hr.mono (by decide)
    have hr_Sheet_init : Room 6 _ := hr.mono (by decide)
    have hr_SheetReader_init : Room 2 _ := hr.mono (by decide)
    have hr_SheetReader_is_open : Room 1 _ := hr.mono (by decide)
    have hr_SheetReader_takes : Room 4 _ := hr.mono (by decide)
    refine ⟨_, (pss_cons (ps_if (pt_not (pt_val (pe_callB call_isi (by rfl) T.b_isinstance bv_isinstance (pa_cons (pv 0) (pa_cons (pe_bltn (v := .ty "str") (by rfl) T.b_str bv_str rfl) pa_nil)))))
        (pss_one (ps_raise rfl (takes_of rfl rfl rfl rfl) (pmk_oex T.br.oex T.br.ini T.br.tI G_BadRow_init hr_BadRow_init b_BadRow_init .nil pass0 (by rfl) T.g_BadRow (pa_cons pe_int pa_nil))))
        pss_nil)
      (pss_cons (ps_set (i := 1) sc_read_sheet.nd rfl (Or.inl rfl) (pe_make0 T.mk_SheetReader G_SheetReader_init hr_SheetReader_init (by rfl) T.g_SheetReader b_SheetReader_init .nil pass0))
      (pss_cons (ps_set (i := 2) sc_read_sheet.nd rfl (Or.inl rfl) (pe_split (pv 0) pe_str))
      (pss_cons (ps_for (passes_of rfl) rfl (pi_enum (by rfl) T.b_enumerate (pa_cons (pv 2) pa_nil)) (pg_tup rfl (pgs_cons (pg_name (i := 3) sc_read_sheet.nd rfl (Or.inl rfl)) (pgs_cons (pg_name (i := 4) sc_read_sheet.nd rfl (Or.inl rfl)) pgs_nil)))
        (pss_one (ps_if (pt_not (pt_val (pe_meth (pv 1) T.cl_SheetReader T.m_SheetReader_takes G_SheetReader_takes hr_SheetReader_takes b_SheetReader_takes .nil pass0 (pa_cons (pe_split (pv 4) pe_str) pa_nil))))
            (pss_one (ps_raise rfl (takes_of rfl rfl rfl rfl) (pmk_oex T.br.oex T.br.ini T.br.tI G_BadRow_init hr_BadRow_init b_BadRow_init .nil pass0 (by rfl) T.g_BadRow (pa_cons (pe_op op_add (pv 3) pe_int) pa_nil))))
            pss_nil)))
      (pss_cons (ps_if (pt_val (pe_meth0 (pv 1) T.cl_SheetReader T.m_SheetReader_is_open G_SheetReader_is_open hr_SheetReader_is_open b_SheetReader_is_open .nil pass0))
        (pss_one (ps_raise rfl (takes_of rfl rfl rfl rfl) (pmk_oex T.br.oex T.br.ini T.br.tI G_BadRow_init hr_BadRow_init b_BadRow_init .nil pass0 (by rfl) T.g_BadRow (pa_cons (pe_op op_add (pe_callB call_len_seq (by rfl) T.b_len bv_len (pa_cons (pv 2) pa_nil)) pe_int) pa_nil))))
        pss_nil)
      (pss_one (ps_ret (pe_make T.mk_Sheet G_Sheet_init hr_Sheet_init (by rfl) T.g_Sheet b_Sheet_init .nil pass0 (pa_cons (pe_fld (pv 1) rfl) pa_nil))))))))), ?_⟩
    rcases h with ⟨x, rfl, hx, kL, kR⟩ | ⟨v, t, rfl, ty, kt, kL⟩
    rotate_left
    · refine ⟨_, rfl, _, _, _, _, false, rfl, .ty _, ty, kit_ty kt, false, rfl, iteT ?_⟩
      exact row_end kL
    · refine ⟨_, rfl, _, _, _, _, true, rfl, .ty _, .base (.str _), kit_ty (by decide +kernel), true, rfl, iteF ?_⟩
      intro p dx hp hdx ndp
      refine ⟨p, dx, rfl, upd_same, fun l H1 hl R1 hl1 kp => ⟨rfl, ?_⟩⟩
      have hlH : H l = none := by
        have n1 : l ≠ p := fun z => by
          rw [z, upd_same] at hl
          cases hl
        rw [upd_ne n1] at hl
        have n2 : l ≠ dx := fun z => by
          rw [z, upd_same] at hl
          cases hl
        rw [upd_ne n2] at hl
        exact hl
      have s1 : Same H H1 := fun b o e => by
        have n1 := ne_of_none e hp
        refine kp b o ?_ n1
        rw [upd_ne n1, upd_ne (ne_of_none e hdx)]
        exact e
      have nlp : l ≠ p := fun z => by
        obtain ⟨dy, q⟩ := R1
        rw [z] at hl1
        rw [q] at hl1
        cases hl1
      refine ⟨_, rfl, ⟨_, rfl⟩, _, _, rfl, rfl, rfl, ?_, fun rl hrl => ?_⟩
      · have : (1000000 : Nat) < sizeLine := by decide
        omega
      have s2 := same_new (o := .lst ((Txt.split x sNl).map V.str)) hrl
      have hrlH : H rl = none := s1.free hrl
      have nlr : l ≠ rl := ne_of_none hl1 hrl
      -- what stood, and the rows
      have O0 : Own (upd H rl (.lst ((Txt.split x sNl).map V.str))) (upd H1 rl (.lst ((Txt.split x sNl).map V.str))) l [] [] := by
        refine ⟨fun b o e => ?_, ⟨?_, .nil⟩, ?_, fun a ha => (by cases ha), List.nodup_nil, fun z => (by cases z)⟩
        · by_cases hb : b = rl
          · rw [hb, upd_same] at e ⊢
            exact e
          · rw [upd_ne hb] at e ⊢
            exact s1 _ _ e
        · rw [upd_ne nlr]
          exact hl1
        · rw [upd_ne nlr]
          exact hlH
      have sH : Same H (upd H rl (.lst ((Txt.split x sNl).map V.str))) := same_new hrlH
      have lenR : (Txt.split x sNl).length ≤ x.length + 1 := by
        have z1 := lens_len (Txt.split x sNl)
        have z2 := split_lens nl_tl (by decide) x
        omega
      refine ⟨_, rfl, rl, _, rfl, SqL.of upd_same, ?_⟩
      refine for_it (walk_enum (xs := (Txt.split x sNl).map V.str)) (fun i σ H2 => ∃ (v3 v4 : Option V) (es : List Trip) (cs : List Cue), σ = [some (.str x), some (.ref p), some (.ref rl), v3, v4] ∧ Own (upd H rl (.lst ((Txt.split x sNl).map V.str))) H2 l es cs ∧ RdAt K H2 p l ∧ SoFar cs ∧
          rowsIn [] (Txt.split x sNl) 0 = rowsIn cs ((Txt.split x sNl).drop i) i) ?_ ?_ ?_ ?_
      · exact ⟨none, none, [], [], rfl, O0, R1.same s2, SoFar.nil, by rw [List.drop_zero]⟩
      · rintro i σ H2 hi ⟨v3, v4, es, cs, rfl, O, R, S, e⟩
        exact SqL.of (O.same _ _ upd_same)
      · rintro i x0 σ H2 H2' hi ⟨v3, v4, es, cs, rfl, O, R, S, e⟩ ⟨t, yi, y, rfl, ht, rfl, eyi, hy⟩
        have hy : ((Txt.split x sNl).map V.str)[i]? = some y := hy
        rw [List.getElem?_map] at hy
        obtain ⟨r, hr0, rfl⟩ := Option.map_eq_some_iff.mp hy
        obtain rfl := Option.some.inj eyi
        rw [drop_get hr0, rowsIn_cons] at e
        refine ⟨t, _, rfl, SqT.of upd_same, rfl, _, _, rfl, _, _, rfl, rfl, ?_⟩
        have s3 := same_new (o := .tup [.int (i : Nat), .str r]) ht
        have lr := lens_mem (List.mem_of_getElem? hr0)
        rw [split_lens nl_tl (by decide) x] at lr
        have R3 := R.same s3
        obtain ⟨dy, hp3⟩ := R3
        have R3 : RdAt K (upd H2 t (.tup [.int (i : Nat), .str r])) p l := ⟨dy, hp3⟩
        refine ⟨_, rfl, p, dy, _, rfl, hp3, rdF_no l (by decide +kernel), _, rfl, ⟨_, rfl⟩, _, _, rfl, rfl, rfl, ?_, fun wl hwl => ?_⟩
        · have : (1000000 : Nat) < sizeLine := by decide
          omega
        have s4 := same_new (o := .lst ((Txt.split r sBl).map V.str)) hwl
        refine ⟨_, p, l, wl, es, cs, Txt.split r sBl, rfl, R3.same s4, O.next (s3.trans s4), S, SqL.of upd_same, fun z hz => ?_, split_ne bl_tl (by decide) r, fun H4 s5 e5 => ⟨_, rfl, iteT ?_⟩, fun H4 es' cs' O4 R4 e5 => ⟨_, rfl, iteF ?_⟩⟩
        · have q1 := lens_mem hz
          rw [split_lens bl_tl (by decide) r] at q1
          omega
        · rw [e5] at e
          refine ⟨_, rfl, _, _, rfl, rfl, row_end fun H5 d s6 ed => ?_⟩
          refine kL (i + 1) H5 d ?_ ((sH.trans s5).trans s6) ed
          unfold readOf
          rw [e]
        · rw [e5] at e
          exact ⟨_, _, es', cs', rfl, O4, R4, (rowIn_ok S e5).1, e⟩
      · rintro σ H2 ⟨v3, v4, es, cs, rfl, O, R, S, e⟩
        rw [List.length_map, List.drop_length] at e
        have e' : rowsIn [] (Txt.split x sNl) 0 = .inr cs := e
        obtain ⟨dy, hp2⟩ := R
        have R : RdAt K H2 p l := ⟨dy, hp2⟩
        refine ⟨_, rfl, p, dy, _, rfl, hp2, rdF_no l (by decide +kernel), p, l, es, cs, rfl, R, O.at_, S.w, fun H3 s3 => ⟨_, rfl, ?_⟩⟩
        cases eo : lastOpen cs with
        | true =>
          refine iteT ?_
          refine ⟨_, rfl, rl, _, rfl, .inl (SqL.of (s3 _ _ (O.same _ _ upd_same))), _, _, rfl, rfl, ?_⟩
          rw [List.length_map]
          refine row_end fun H5 d s6 ed => ?_
          refine kL ((Txt.split x sNl).length + 1) H5 d ?_ ((sH.trans (O.same.trans s3)).trans s6) ed
          unfold readOf
          rw [e']
          show (if lastOpen cs = true then _ else _) = _
          rw [if_pos eo]
        | false =>
          refine iteF ?_
          have er : readOf x = .inr cs := by
            unfold readOf
            rw [e']
            show (if lastOpen cs = true then _ else _) = _
            rw [if_neg (by rw [eo]; exact Bool.false_ne_true)]
          obtain ⟨SO, _⟩ := readOf_ok er
          refine ⟨_, rfl, p, _, dy, _, _, rfl, s3 _ _ hp2, T.cl_SheetReader, T.na_found, rdF_found l, fun q dq hq hdq nq => ?_⟩
          have t1 : Same H3 (upd (upd H3 dq (.own q)) q (.ins (He.ga K "Sheet") dq [])) := fun b o eb => by
            rw [upd_ne (ne_of_none eb hq), upd_ne (ne_of_none eb hdq)]
            exact eb
          refine ⟨q, dq, l, es, cs, rfl, upd_same, (O.at_.same s3).same t1, SO, fun H5 A5 kp5 => ⟨rfl, kR cs q H5 er (fun b o eb => ?_) A5⟩⟩
          have eb3 := s3 _ _ (O.same _ _ (sH _ _ eb))
          exact kp5 b o (t1 _ _ eb3) (ne_of_none eb3 hq)
end
end Fw

/-! ==== FwL1 ==== -/
set_option Elab.async false
set_option linter.all false
set_option maxRecDepth 100000
set_option maxHeartbeats 4000000
/-! walks of the law: the numbers it draws -/
namespace Fw
open PySem PySem.Spec PyProof.Rows L2 TL
section
variable {P : Program} {w : World} {K : PySem.W.Frag} {mg : Str → Option Value} {base : Heap}
abbrev kCells : Key := Sum.inr ("cells" : Str)
abbrev kAt : Key := Sum.inr ("at" : Str)
/-! ### a list of written words: short ones -/
def shortLit : Expr → Bool
  | .Constant (.str x) _ _ => decide (x.length ≤ 16)
  | _ => false
def strOf : Expr → Str
  | .Constant (.str x) _ _ => x
  | _ => Str.ofString ""
def tShorts (n : Nat) : TA := fun _ H Q => ∀ xs : List Str, xs.length = n → (∀ x ∈ xs, x.length ≤ 16) → Q (xs.map V.str) H
theorem short_lit {e : Expr} (h : shortLit e = true) : isLit e = true ∧ litOf e = .str (strOf e) ∧ (strOf e).length ≤ 16 := by
  cases e with
  | Constant c j pos =>
    cases c with
    | str x => exact ⟨rfl, rfl, of_decide_eq_true h⟩
    | _ => cases h
  | _ => cases h
theorem pa_shorts {X : Cx} {es : List Expr} {n : Nat} (h : es.all shortLit = true) (hn : es.length = n) : PA X es (tShorts n) := by
  have hs := List.all_eq_true.mp h
  have hl : es.all isLit = true := List.all_eq_true.mpr fun e he => (short_lit (hs e he)).1
  refine ⟨fun pos pins s σ H Q I q => (pa_lits hl).run pos pins s σ H Q I ?_⟩
  have e : es.map litOf = (es.map strOf).map V.str := by
    rw [List.map_map]
    exact List.map_congr_left fun e he => (short_lit (hs e he)).2.1
  show Q (es.map litOf) H
  rw [e]
  refine q _ (by rw [List.length_map]; exact hn) fun x hx => ?_
  obtain ⟨e, he, rfl⟩ := List.mem_map.mp hx
  exact (short_lit (hs e he)).2.2
def stD (a : Addr) (z : Int) : List (Key × V) := [(kCells, .ref a), (kAt, .int z)]
theorem kca : ¬ (kCells = kAt) := by
  intro z
  injection z with z
  exact absurd z (by decide +kernel)
theorem kac : ¬ (kAt = kCells) := fun z => kca z.symm
/-- the law's state: its numbers, where it stands -/
def St (K : PySem.W.Frag) (H : Hp) (d a : Addr) (ns : List Int) : Prop := (∃ z : Int, H d = some (.dK (stD a z))) ∧ ∀ H', But d H H' → SqL K H' a (ns.map V.int)
/-- all but the state as it was; the state goes on -/
def Go (d a : Addr) (H H' : Hp) : Prop := But d H H' ∧ ∃ z : Int, H' d = some (.dK (stD a z))
theorem Go.trans {d a : Addr} {H H1 H2 : Hp} (x : Go d a H H1) (y : Go d a H1 H2) : Go d a H H2 := ⟨x.1.trans y.1, y.2⟩
theorem Go.on {d a : Addr} {H H1 H2 : Hp} (x : Go d a H H1) (s : Same H1 H2) : Go d a H H2 := ⟨x.1.trans (Same.but s), x.2.imp fun _ q => s _ _ q⟩
theorem St.go {H H' : Hp} {d a : Addr} {ns : List Int} (h : St K H d a ns) (g : Go d a H H') : St K H' d a ns := ⟨g.2, fun H2 b => h.2 H2 (g.1.trans b)⟩
theorem St.refl {H : Hp} {d a : Addr} {ns : List Int} (h : St K H d a ns) : Go d a H H := ⟨But.refl _ _, h.1⟩
theorem St.same {H H' : Hp} {d a : Addr} {ns : List Int} (h : St K H d a ns) (s : Same H H') : St K H' d a ns := h.go (h.refl.on s)
theorem St.new {H : Hp} {d a b : Addr} {ns : List Int} (h : St K H d a ns) (hb : H b = none) : d ≠ b := by
  obtain ⟨⟨z, h1⟩, _⟩ := h
  exact ne_of_none h1 hb
/-- a new object changes -/
theorem Go.upd {d a D : Addr} {H H' : Hp} {o : HO} (g : Go d a H H') (hD : H D = none) (n : d ≠ D) : Go d a H (upd H' D o) := by
  refine ⟨fun b x e nb => ?_, g.2.imp fun _ q => ?_⟩
  · rw [upd_ne (ne_of_none e hD)]
    exact g.1 b x e nb
  · rw [upd_ne n]
    exact q
theorem st_cells {H : Hp} {d a : Addr} {z : Int} (h : H d = some (.dK (stD a z))) : DGet H d (.str "cells") (some (.ref a)) := by
  have q := DGet.k (k := kCells) h
  have e : valV (stD a z) (kCells) = some (.ref a) := valV_pos rfl
  rw [e] at q
  exact q
theorem st_at {H : Hp} {d a : Addr} {z : Int} (h : H d = some (.dK (stD a z))) : DGet H d (.str "at") (some (.int z)) := by
  have q := DGet.k (k := kAt) h
  have e : valV (stD a z) (kAt) = some (.int z) := by
    unfold stD
    rw [valV_neg kca]
    exact valV_pos rfl
  rw [e] at q
  exact q
theorem st_put (a : Addr) (z z2 : Int) : putK (stD a z) (kAt) (.int z2) = stD a z2 := by
  have h : ((stD a z).any fun kv => decide (kv.1 = kAt)) = true := by
    rw [valV_any]
    have e : valV (stD a z) (kAt) = some (.int z) := by
      unfold stD
      rw [valV_neg kca]
      exact valV_pos rfl
    rw [e] <;> rfl
  unfold putK
  rw [if_pos h]
  show [(if kCells = kAt then (kCells, V.int z2) else (kCells, V.ref a)), (if kAt = kAt then (kAt, V.int z2) else (kAt, V.int z))] = _
  rw [if_neg kca, if_pos rfl] <;> rfl
/-! ### ints as data -/
theorem ints_dp {H : Hp} {a : Addr} {ns : List Int} (h : SqL K H a (ns.map V.int)) : Dp K H (.ref a) (.list (ns.map PyData.int)) := by
  refine .lst h ?_
  clear h
  induction ns with
  | nil => exact .nil
  | cons n r ih => exact .cons (.int n) ih
theorem ints_shaped (ns : List Int) : SeqAt.shaped (.list (ns.map PyData.int)) = true := by
  refine shaped_of ?_ ?_
  · exact lay_all (f := PyData.int) fun m _ => rfl
  · have h1 := dep_all (f := PyData.int) (n := 0) (l := ns) fun m _ => Nat.le_refl _
    show PyData.depthAll (ns.map PyData.int) + 1 ≤ 64
    omega
/-- an index in range -/
theorem ix_in {α : Type} {xs : List α} {i : Int} (h0 : 0 ≤ i) (h1 : i < (xs.length : Int)) : ∃ x, x ∈ xs ∧ atI xs i = some x := by
  obtain ⟨j, rfl⟩ := Int.eq_ofNat_of_zero_le h0
  have hj : j < xs.length := by omega
  exact ⟨xs[j], List.getElem_mem hj, atI_nat (List.getElem?_eq_getElem hj)⟩
theorem mod_in (i : Int) {n : Int} (h : 0 < n) : 0 ≤ i % n ∧ i % n < n := ⟨Int.emod_nonneg i (by omega), Int.emod_lt_of_pos i h⟩
theorem pos {j : Int} (h : (0 : Int) < j) : 0 < j := h
/-- the next number -/
def spNext (K : PySem.W.Frag) : Sp := fun vs H Q _ => ∃ (d a : Addr) (ns : List Int), vs = [.ref d] ∧ St K H d a ns ∧ ∀ (n : Int) H', 0 ≤ n → n ≤ 715827876 → Go d a H H' → Q (.int n) H'
abbrev nn_law_next : List Str := ["_law_state", "_law_cell", "_law_number_here"]
theorem sc_law_next : FnScope nn_law_next ["_law_state"] (defScope s_law_next) := ⟨rfl, rfl, rfl, by decide +kernel, rfl, by decide +kernel, by decide +kernel⟩
theorem ok_law_next (T : Tx K mg) : OkD P w K mg base CX0 1 ("_law_next", none) ["_law_state"] (spNext K) := by
  refine OkD.mk T.f_law_next sc_law_next (fun _ _ _ _ _ _ us hl => match us, hl with | [_], _ => rfl) (fun vs H Q E h => ?_) (fun cdv A outer s H vs Q E hr h => ?_)
  · obtain ⟨d, a, ns, rfl, _⟩ := h
    rfl
  · obtain ⟨d, a, ns, rfl, S, k⟩ := h
    refine ⟨_, (pss_cons (ps_set (i := 1) sc_law_next.nd rfl (Or.inl rfl) pe_int)
      (pss_cons (ps_if (pt_cmpR (op_neD hr.units) (pe_dget (hu_of hr) (pv 0) pe_str (fun _ _ => rfl)) (pe_lst pa_nil) (by first | exact nomark _ | rfl))
        (pss_one (ps_set (i := 1) sc_law_next.nd rfl (Or.inl rfl) (pe_ix ix_list (pe_dget (hu_of hr) (pv 0) pe_str (fun _ _ => rfl)) (pe_op op_mod (pe_dget (hu_of hr) (pv 0) pe_str (fun _ _ => rfl)) (pe_callB call_len_seq (by rfl) T.b_len bv_len (pa_cons (pe_dget (hu_of hr) (pv 0) pe_str (fun _ _ => rfl)) pa_nil))) (fun _ _ => rfl))))
        pss_nil)
      (pss_cons (ps_dput (hu_of hr) (pv 0) pe_str (pe_op op_add (pe_dget (hu_of hr) (pv 0) pe_str (fun _ _ => rfl)) pe_int) rfl)
      (pss_cons (ps_set (i := 2) sc_law_next.nd rfl (Or.inl rfl) (pe_op op_mod (pe_op op_mul (pe_op op_add (pe_op op_add (pe_op op_mod (pv 1) pe_int) (pe_op op_mul pe_int (pe_dget (hu_of hr) (pv 0) pe_str (fun _ _ => rfl)))) pe_int) pe_int) pe_int))
      (pss_one (ps_ret (pe_op op_fdiv (pe_op op_mod (pe_op op_mul (pv 2) (pe_op op_add (pv 2) (pe_dget (hu_of hr) (pv 0) pe_str (fun _ _ => rfl)))) pe_int) pe_int))))))), ?_⟩
    obtain ⟨⟨z, hd⟩, hS⟩ := S
    have hs := hS H (But.refl _ _)
    refine ⟨_, rfl, d, _, rfl, st_cells hd, Nat.zero_le _, fun q hq => ?_⟩
    have s1 := same_new (o := .lst []) hq
    have hd1 := s1 _ _ hd
    have hs1 := s1.seq hs
    refine ⟨_, _, ints_dp hs1, .lst (SqL.of upd_same) .nil, ints_shaped ns, rfl, _, rfl, ?_⟩
    rw [eqv_empty, List.isEmpty_map]
    have fin : ∀ c : Int, 0 ≤ (c % 2147483629 + 3 * (z + 1) + 1) * 48271 % 2147483647 ∧ (c % 2147483629 + 3 * (z + 1) + 1) * 48271 % 2147483647 < 2147483647 := fun c => mod_in _ (by decide)
    have end_ : ∀ x : Int, 0 ≤ x % 2147483629 / 3 ∧ x % 2147483629 / 3 ≤ 715827876 := fun x => by
      have := mod_in x (n := 2147483629) (by decide)
      omega
    cases ns with
    | nil =>
      refine iteF ?_
      refine ⟨_, rfl, d, _, rfl, st_at hd1, _, _, rfl, rfl, _, rfl, d, _, rfl, DPut.k (k := kAt) hd1 (by show 2 < sizeLine; decide), ?_⟩
      rw [st_put]
      have hd2 : upd (upd H q (.lst [])) d (.dK (stD a (z + 1))) d = some (.dK (stD a (z + 1))) := upd_same
      refine ⟨_, rfl, _, _, rfl, rfl, pos (by decide), _, rfl, d, _, rfl, st_at hd2, _, _, rfl, rfl, .inl (by decide), _, _, rfl, rfl, _, _, rfl, rfl, _, _, rfl, rfl, .inr (by decide), _, _, rfl, rfl, pos (by decide), ?_⟩
      have f1 := fin 0
      refine ⟨_, rfl, _, rfl, _, rfl, d, _, rfl, st_at hd2, _, _, rfl, rfl, _, _, rfl, rfl, .inl ⟨by omega, by omega⟩, _, _, rfl, rfl, pos (by decide), _, _, rfl, rfl, ⟨by decide, by decide⟩, ?_⟩
      refine k _ _ (end_ _).1 (end_ _).2 ⟨(Same.but s1).trans But.upd, z + 1, upd_same⟩
    | cons n0 r =>
      refine iteT ?_
      have hl : (0 : Int) < (((n0 :: r).map V.int).length : Int) := by
        rw [List.length_map, List.length_cons]
        omega
      have hm := mod_in z hl
      obtain ⟨x, hx, ex⟩ := ix_in hm.1 hm.2
      obtain ⟨c, _, rfl⟩ := List.mem_map.mp hx
      refine ⟨_, rfl, d, _, rfl, st_cells hd1, _, rfl, d, _, rfl, st_at hd1, _, rfl, d, _, rfl, st_cells hd1, a, _, rfl, .inl hs1, _, _, rfl, rfl, hl, a, _, _, _, rfl, rfl, hs1, ex, ?_⟩
      refine ⟨_, rfl, d, _, rfl, st_at hd1, _, _, rfl, rfl, _, rfl, d, _, rfl, DPut.k (k := kAt) hd1 (by show 2 < sizeLine; decide), ?_⟩
      rw [st_put]
      have hd2 : upd (upd H q (.lst [])) d (.dK (stD a (z + 1))) d = some (.dK (stD a (z + 1))) := upd_same
      refine ⟨_, rfl, _, _, rfl, rfl, pos (by decide), _, rfl, d, _, rfl, st_at hd2, _, _, rfl, rfl, .inl (by decide), _, _, rfl, rfl, _, _, rfl, rfl, _, _, rfl, rfl, .inr (by decide), _, _, rfl, rfl, pos (by decide), ?_⟩
      have f1 := fin c
      refine ⟨_, rfl, _, rfl, _, rfl, d, _, rfl, st_at hd2, _, _, rfl, rfl, _, _, rfl, rfl, .inl ⟨by omega, by omega⟩, _, _, rfl, rfl, pos (by decide), _, _, rfl, rfl, ⟨by decide, by decide⟩, ?_⟩
      refine k _ _ (end_ _).1 (end_ _).2 ⟨(Same.but s1).trans But.upd, z + 1, upd_same⟩
/-- a wait -/
def spWait (K : PySem.W.Frag) : Sp := fun vs H Q _ => ∃ (d a : Addr) (ns : List Int), vs = [.ref d] ∧ St K H d a ns ∧ ∀ (n : Int) H', 0 ≤ n → n ≤ 50 → Go d a H H' → Q (.int n) H'
abbrev nn_law_wait : List Str := ["_law_state", "_law_number_here"]
theorem sc_law_wait : FnScope nn_law_wait ["_law_state"] (defScope s_law_wait) := ⟨rfl, rfl, rfl, by decide +kernel, rfl, by decide +kernel, by decide +kernel⟩
theorem ok_law_wait (T : Tx K mg) : OkD P w K mg base CX0 2 ("_law_wait", none) ["_law_state"] (spWait K) := by
  obtain ⟨fd_law_next, G_law_next, b_law_next, k_law_next⟩ := ok_law_next (P := P) (w := w) (base := base) T
  refine OkD.mk T.f_law_wait sc_law_wait (fun _ _ _ _ _ _ us hl => match us, hl with | [_], _ => rfl) (fun vs H Q E h => ?_) (fun cdv A outer s H vs Q E hr h => ?_)
  · obtain ⟨d, a, ns, rfl, _⟩ := h
    rfl
  · obtain ⟨d, a, ns, rfl, S, k⟩ := h
    have hr_law_next : Room 1 _ := hr.mono (by decide)
    refine ⟨_, (pss_cons (ps_set (i := 1) sc_law_wait.nd rfl (Or.inl rfl) (pe_call G_law_next hr_law_next (by rfl) T.g_law_next k_law_next b_law_next .nil pass0 (pa_cons (pv 0) pa_nil)))
      (pss_one (ps_ret (pe_ix ix_list (pe_lst (pa_cons pe_int (pa_cons pe_int (pa_cons (pe_op op_mod (pe_op op_fdiv (pv 1) pe_int) pe_int) pa_nil)))) (pe_op op_mod (pv 1) pe_int) (fun _ _ => rfl))))), ?_⟩
    refine ⟨_, rfl, d, a, ns, rfl, S, fun n H1 n0 n1 b1 => ?_⟩
    refine ⟨_, rfl, _, _, rfl, rfl, ⟨by decide, by decide⟩, _, _, rfl, rfl, pos (by decide), (by show 3 ≤ sizeLine; decide), fun q hq => ?_⟩
    have hm := mod_in n (n := 3) (by decide)
    have hn : (0 : Int) ≤ n / 3 % 51 ∧ n / 3 % 51 < 51 := mod_in _ (by decide)
    obtain ⟨x, hx, ex⟩ := ix_in (xs := [V.int 0, V.int 50, V.int (n / 3 % 51)]) hm.1 hm.2
    have fin : ∀ i : Int, 0 ≤ i → i ≤ 50 → Q (.int i) (upd H1 q (.lst [V.int 0, V.int 50, V.int (n / 3 % 51)])) := fun i h0 h1 => k _ _ h0 h1 (b1.on (same_new hq))
    refine ⟨_, rfl, _, _, rfl, rfl, pos (by decide), q, _, _, x, rfl, rfl, SqL.of upd_same, ex, ?_⟩
    simp only [List.mem_cons, List.not_mem_nil, or_false] at hx
    rcases hx with rfl | rfl | rfl
    · exact fin _ (by decide) (by decide)
    · exact fin _ (by decide) (by decide)
    · exact fin _ hn.1 (by omega)
/-- a place -/
def spPlace (K : PySem.W.Frag) : Sp := fun vs H Q _ => ∃ (d a : Addr) (ns : List Int), vs = [.ref d] ∧ St K H d a ns ∧ ∀ (n : Int) H', -1000000000 ≤ n → n ≤ 1000000000 → Go d a H H' → Q (.int n) H'
theorem p9 : (10 : Int) ^ (9 : Int).toNat = 1000000000 := by decide +kernel
theorem c9 : CPow 10 9 := ⟨by decide, by decide, by decide⟩
theorem op_pow9 {X : Cx} : OpR X (binaryOp .Pow) (fun x y H Q => x = .int 10 ∧ y = .int 9 ∧ Q (.int 1000000000) H) := by
  intro pins s σ H x y v u Q I rx ry h
  obtain ⟨rfl, rfl, q⟩ := h
  refine op_pow pins s σ H _ _ v u Q I rx ry ⟨10, 9, rfl, rfl, c9, ?_⟩
  show Q (.int ((10 : Int) ^ (9 : Int).toNat)) H
  rw [p9]
  exact q
abbrev nn_law_place : List Str := ["_law_state", "_law_number_here", "_law_wide"]
theorem sc_law_place : FnScope nn_law_place ["_law_state"] (defScope s_law_place) := ⟨rfl, rfl, rfl, by decide +kernel, rfl, by decide +kernel, by decide +kernel⟩
theorem ok_law_place (T : Tx K mg) : OkD P w K mg base CX0 2 ("_law_place", none) ["_law_state"] (spPlace K) := by
  obtain ⟨fd_law_next, G_law_next, b_law_next, k_law_next⟩ := ok_law_next (P := P) (w := w) (base := base) T
  refine OkD.mk T.f_law_place sc_law_place (fun _ _ _ _ _ _ us hl => match us, hl with | [_], _ => rfl) (fun vs H Q E h => ?_) (fun cdv A outer s H vs Q E hr h => ?_)
  · obtain ⟨d, a, ns, rfl, _⟩ := h
    rfl
  · obtain ⟨d, a, ns, rfl, S, k⟩ := h
    have hr_law_next : Room 1 _ := hr.mono (by decide)
    refine ⟨_, (pss_cons (ps_set (i := 1) sc_law_place.nd rfl (Or.inl rfl) (pe_call G_law_next hr_law_next (by rfl) T.g_law_next k_law_next b_law_next .nil pass0 (pa_cons (pv 0) pa_nil)))
      (pss_cons (ps_set (i := 2) sc_law_place.nd rfl (Or.inl rfl) (pe_op op_sub (pe_op op_mod (pe_op op_add (pe_op op_mul (pv 1) pe_int) (pe_call G_law_next hr_law_next (by rfl) T.g_law_next k_law_next b_law_next .nil pass0 (pa_cons (pv 0) pa_nil))) (pe_op op_add (pe_op op_mul pe_int (pe_op op_pow9 pe_int pe_int)) pe_int)) (pe_op op_pow9 pe_int pe_int)))
      (pss_one (ps_ret (pe_ix ix_list (pe_lst (pa_cons pe_int (pa_cons (pe_op op_sub (pe_op op_mod (pe_op op_fdiv (pv 1) pe_int) pe_int) pe_int) (pa_cons (pe_op op_sub (pe_op op_mod (pe_op op_fdiv (pv 1) pe_int) pe_int) pe_int) (pa_cons (pv 2) (pa_cons (pv 2) (pa_cons (pe_op op_pow9 pe_int pe_int) (pa_cons (pe_op op_sub pe_int (pe_op op_pow9 pe_int pe_int)) pa_nil)))))))) (pe_op op_mod (pv 1) pe_int) (fun _ _ => rfl)))))), ?_⟩
    refine ⟨_, rfl, d, a, ns, rfl, S, fun n H1 n0 n1 b1 => ?_⟩
    refine ⟨_, rfl, _, _, rfl, rfl, .inr (by decide), _, rfl, d, a, ns, rfl, S.go b1, fun m H2 m0 m1 b2 => ?_⟩
    refine ⟨_, _, rfl, rfl, rfl, rfl, _, _, rfl, rfl, .inl (by decide), _, _, rfl, rfl, _, _, rfl, rfl, pos (by decide), rfl, rfl, _, _, rfl, rfl, ?_⟩
    refine ⟨_, rfl, _, _, rfl, rfl, ⟨by decide, by decide⟩, _, _, rfl, rfl, pos (by decide), _, _, rfl, rfl, ?_⟩
    refine ⟨_, rfl, _, _, rfl, rfl, ⟨by decide, by decide⟩, _, _, rfl, rfl, pos (by decide), _, _, rfl, rfl, ?_⟩
    refine ⟨_, rfl, _, rfl, rfl, rfl, rfl, rfl, _, _, rfl, rfl, (by show 7 ≤ sizeLine; decide), fun q hq => ?_⟩
    have hm := mod_in n (n := 7) (by decide)
    have h1 := mod_in (n / 7) (n := 21) (by decide)
    have h2 := mod_in (n / 7) (n := 2001) (by decide)
    have h3 := mod_in (n * 7 + m) (n := 2 * 1000000000 + 1) (by decide)
    obtain ⟨x, hx, ex⟩ := ix_in (xs := [V.int 0, V.int (n / 7 % 21 - 10), V.int (n / 7 % 2001 - 1000), V.int ((n * 7 + m) % (2 * 1000000000 + 1) - 1000000000), V.int ((n * 7 + m) % (2 * 1000000000 + 1) - 1000000000), V.int 1000000000, V.int (0 - 1000000000)]) hm.1 hm.2
    have fin : ∀ i : Int, -1000000000 ≤ i → i ≤ 1000000000 → Q (.int i) (upd H2 q (.lst [V.int 0, V.int (n / 7 % 21 - 10), V.int (n / 7 % 2001 - 1000), V.int ((n * 7 + m) % (2 * 1000000000 + 1) - 1000000000), V.int ((n * 7 + m) % (2 * 1000000000 + 1) - 1000000000), V.int 1000000000, V.int (0 - 1000000000)])) := fun i h0 h1 => k _ _ h0 h1 ((b1.trans b2).on (same_new hq))
    refine ⟨_, rfl, _, _, rfl, rfl, pos (by decide), q, _, _, x, rfl, rfl, SqL.of upd_same, ex, ?_⟩
    simp only [List.mem_cons, List.not_mem_nil, or_false] at hx
    rcases hx with rfl | rfl | rfl | rfl | rfl | rfl | rfl
    · exact fin _ (by decide) (by decide)
    · exact fin _ (by omega) (by omega)
    · exact fin _ (by omega) (by omega)
    · exact fin _ (by omega) (by omega)
    · exact fin _ (by omega) (by omega)
    · exact fin _ (by decide) (by decide)
    · exact fin _ (by decide) (by decide)
end
end Fw

/-! ==== FwL2 ==== -/
set_option Elab.async false
set_option linter.all false
set_option maxRecDepth 100000
set_option maxHeartbeats 4000000
/-! walks of the law: the names it makes -/
namespace Fw
open PySem PySem.Spec PyProof.Rows L2 TL
section
variable {P : Program} {w : World} {K : PySem.W.Frag} {mg : Str → Option Value} {base : Heap}
def rJoinK (K : PySem.W.Frag) : V → List V → Hp → VK → Prop := fun x xs H Q => ∃ a p, ∃ ys : List Str, x = .str a ∧ xs = [.ref p] ∧ (SqL K H p (ys.map V.str) ∨ SqT K H p (ys.map V.str)) ∧ (ys.map (·.length)).sum + ys.length * a.length ≤ 16777216 ∧ Q (.str (Txt.join a ys)) H
theorem pe_joinK {X : Cx} {o e : Expr} {to te : TE} {apos pos : Pos} (hK : X.K = K) (ho : PE X o to) (he : PE X e te) (hs : starEach [e] X.env = [(false, eval e X.env)] := by rfl) (hbase : attributeBase o "join" X.env (eval o X.env) = eval o X.env := by rfl) (hline : (apos.endLine == pos.line) = true := by rfl) :
    PE X (.Call (.Attribute o "join" apos) [e] [] pos) (tM1 (rJoinK K) to te) := by
  subst hK
  exact pe_join ho he hs hbase hline
abbrev abcS : Str := Str.ofString "abcdefghijklmnopqrstuvwxyz"
theorem abc_get : ∀ m : Nat, m < 26 → (tl abcS)[m]? = some (97 + m) := by
  rw [letters_tl]
  decide
/-- a text of one sign -/
def oneS (c : Nat) : Str := ⟨#[c]⟩
theorem oneS_tl (c : Nat) : tl (oneS c) = [c] := rfl
theorem join_ones : ∀ l : List Nat, joinL [] ((l.map oneS).map tl) = l
  | [] => rfl
  | [c] => rfl
  | c :: e :: r => by
    have ih := join_ones (e :: r)
    show [c] ++ ([] ++ joinL [] (((e :: r).map oneS).map tl)) = c :: e :: r
    rw [ih] <;> rfl
theorem empty_tl : tl (Str.ofString "") = [] := by decide +kernel
theorem joinE_tl (l : List Nat) : tl (Txt.join (Str.ofString "") (l.map oneS)) = l := by
  rw [join_eq, tl_join, empty_tl, join_ones]
theorem ones_sum : ∀ l : List Nat, ((l.map oneS).map (·.length)).sum = l.length
  | [] => rfl
  | c :: r => by
    rw [List.map_cons, List.map_cons, List.sum_cons, ones_sum r, List.length_cons]
    have : (oneS c).length = 1 := rfl
    omega
theorem strs_of : ∀ {ys : List V}, (∀ (i : Nat) y, ys[i]? = some y → ∃ c, y = V.str (oneS c)) → ∃ cs : List Nat, ys = (cs.map oneS).map V.str
  | [], _ => ⟨[], rfl⟩
  | y :: r, h => by
    obtain ⟨c, e⟩ := h 0 y rfl
    obtain ⟨cs, ec⟩ := strs_of (ys := r) fun i z hz => h (i + 1) z hz
    exact ⟨c :: cs, by rw [e, ec] <;> rfl⟩
theorem iteD {c A B : Prop} [Decidable c] (hc : ¬ c) (h : B) : if decide c = true then A else B := by
  rw [decide_eq_false hc]
  exact iteF h
theorem ixN_nat {n t : Nat} (h : t < n) : ixN n (t : Int) = some t := by
  unfold ixN
  rw [if_pos (by omega), if_pos (by omega)]
  simp
def letN (q : Int) (k : Nat) : Nat := 97 + ((q + 7 * (k : Int)) % 26).toNat
theorem letN_at (q : Int) (k : Nat) : atI (tl abcS) ((q + 7 * (k : Int)) % 26) = some (letN q k) := by
  have h := mod_in (q + 7 * (k : Int)) (n := 26) (by decide)
  obtain ⟨j, ej⟩ := Int.eq_ofNat_of_zero_le h.1
  unfold letN
  rw [ej]
  have hj : j < 26 := by omega
  exact atI_nat (abc_get j hj)
theorem letN_inj {q : Int} {i j : Nat} (hi : i < 26) (hj : j < 26) (h : letN q i = letN q j) : i = j := by
  unfold letN at h
  have h1 := mod_in (q + 7 * (i : Int)) (n := 26) (by decide)
  have h2 := mod_in (q + 7 * (j : Int)) (n := 26) (by decide)
  omega
def nameL (cs : List Nat) (sz t : Nat) (q : Int) (k : Nat) : List Nat := (cs.take sz).set t (letN q k)
def nameS (cs : List Nat) (sz t : Nat) (q : Int) (k : Nat) : Str := Txt.join (Str.ofString "") ((nameL cs sz t q k).map oneS)
theorem nameS_tl (cs : List Nat) (sz t : Nat) (q : Int) (k : Nat) : tl (nameS cs sz t q k) = nameL cs sz t q k := joinE_tl _
theorem nameS_len {cs : List Nat} {sz t : Nat} {q : Int} {k : Nat} (h : sz ≤ 8) : (nameS cs sz t q k).length ≤ 8 := by
  rw [len_tl, nameS_tl]
  unfold nameL
  rw [List.length_set, List.length_take]
  omega
theorem nameS_inj {cs : List Nat} {sz t : Nat} {q : Int} {i j : Nat} (ht : t < (cs.take sz).length) (hi : i < 26) (hj : j < 26) (h : nameS cs sz t q i = nameS cs sz t q j) : i = j := by
  have e := congrArg tl h
  rw [nameS_tl, nameS_tl] at e
  unfold nameL at e
  have g : ((cs.take sz).set t (letN q i))[t]? = ((cs.take sz).set t (letN q j))[t]? := by rw [e]
  rw [List.getElem?_set_self ht, List.getElem?_set_self ht] at g
  exact letN_inj hi hj (Option.some.inj g)
def namesK (cs : List Nat) (sz t : Nat) (q : Int) (m : Nat) : List Str := (List.range m).map (nameS cs sz t q)
theorem namesK_nd {cs : List Nat} {sz t : Nat} {q : Int} {m : Nat} (ht : t < (cs.take sz).length) (hm : m ≤ 26) : (namesK cs sz t q m).Nodup := by
  unfold namesK
  rw [List.Nodup, List.pairwise_map]
  refine List.Pairwise.imp_of_mem (fun {a b} ha hb hab e => ?_) (List.nodup_range (n := m))
  rw [List.mem_range] at ha hb
  exact hab (nameS_inj ht (by omega) (by omega) e)
theorem namesK_succ (cs : List Nat) (sz t : Nat) (q : Int) (m : Nat) : namesK cs sz t q (m + 1) = namesK cs sz t q m ++ [nameS cs sz t q m] := by
  unfold namesK
  rw [List.range_succ, List.map_append] <;> rfl
def spNamesL (K : PySem.W.Frag) : Sp := fun vs H Q _ => ∃ (d a : Addr) (ns : List Int) (m : Nat), vs = [.ref d, .int m] ∧ (9 ≤ m ∧ m ≤ 13) ∧ St K H d a ns ∧
  ∀ (l : Addr) (xs : List Str) H', xs.length = m → (∀ x ∈ xs, x.length ≤ 8) → xs.Nodup → Go d a H H' → H' l = some (.lst (xs.map V.str)) → H l = none → Q (.ref l) H'
abbrev nn_law_names : List Str := ["_law_state", "_law_many", "_law_letters", "_law_base", "_law_number_here", "_law_size", "_law_at", "_law_found", "_law_k", "_law_name"]
theorem sc_law_names : FnScope nn_law_names ["_law_state", "_law_many"] (defScope s_law_names) := ⟨rfl, rfl, rfl, by decide +kernel, rfl, by decide +kernel, by decide +kernel⟩
theorem ok_law_names (T : Tx K mg) : OkD P w K mg base CX0 2 ("_law_names", none) ["_law_state", "_law_many"] (spNamesL K) := by
  obtain ⟨fd_law_next, G_law_next, b_law_next, k_law_next⟩ := ok_law_next (P := P) (w := w) (base := base) T
  refine OkD.mk T.f_law_names sc_law_names (fun _ _ _ _ _ _ us hl => match us, hl with | [_, _], _ => rfl) (fun vs H Q E h => ?_) (fun cdv A outer s H vs Q E hr h => ?_)
  · obtain ⟨d, a, ns, m, rfl, _⟩ := h
    rfl
  · obtain ⟨d, a, ns, m, rfl, hm, S, k⟩ := h
    have hr_law_next : Room 1 _ := hr.mono (by decide)
    refine ⟨_, (pss_cons (ps_set (i := 2) sc_law_names.nd rfl (Or.inr rfl) pe_str)
      (pss_cons (ps_set (i := 3) sc_law_names.nd rfl (Or.inr rfl) (pe_lc (g := gName 8) (own := [("_law_k", 8)]) rfl sc_law_names.nd (pi_range1 (by rfl) T.b_range (pa_cons pe_int pa_nil)) (blkOk_by (own := [("_law_k", 8)]) (N := nn_law_names) (sc := defScope s_law_names) (by decide +kernel)) (fun _ _ _ _ _ => (pg_name (i := 8) sc_law_names.nd rfl (Or.inl rfl))) (fun _ _ _ _ _ => pts_nil) (fun _ _ _ _ _ => (pe_ix ix_str (pv 2) (pe_op op_mod (pe_call G_law_next hr_law_next (by rfl) T.g_law_next k_law_next b_law_next .nil pass0 (pa_cons (pv 0) pa_nil)) pe_int) (fun _ _ => rfl)))))
      (pss_cons (ps_set (i := 4) sc_law_names.nd rfl (Or.inl rfl) (pe_call G_law_next hr_law_next (by rfl) T.g_law_next k_law_next b_law_next .nil pass0 (pa_cons (pv 0) pa_nil)))
      (pss_cons (ps_if (PW.pt (pw_and (pt_cmpR op_eq (pe_op op_mod (pv 4) pe_int) pe_int (by first | exact nomark _ | rfl)) (pw_and1 (pt_cmpR op_lt (pv 1) pe_int (by first | exact nomark _ | rfl)))))
        (pss_one (ps_ret (pe_lc (g := gName 8) (own := [("_law_k", 8)]) rfl sc_law_names.nd (pi_range1 (by rfl) T.b_range (pa_cons (pv 1) pa_nil)) (blkOk_by (own := [("_law_k", 8)]) (N := nn_law_names) (sc := defScope s_law_names) (by decide +kernel)) (fun _ _ _ _ _ => (pg_name (i := 8) sc_law_names.nd rfl (Or.inl rfl))) (fun _ _ _ _ _ => pts_nil) (fun _ _ _ _ _ => (pe_joinK (K := K) rfl pe_str (pe_slice (r := rSlL K) sl_list (pv 3) po_none (po_some (pe_op op_add (pv 8) pe_int))))))))
        pss_nil)
      (pss_cons (ps_set (i := 5) sc_law_names.nd rfl (Or.inl rfl) (pe_op op_add pe_int (pe_op op_mod (pe_op op_fdiv (pv 4) pe_int) pe_int)))
      (pss_cons (ps_set (i := 6) sc_law_names.nd rfl (Or.inl rfl) (pe_op op_mod (pe_op op_fdiv (pv 4) pe_int) (pv 5)))
      (pss_cons (ps_set (i := 7) sc_law_names.nd rfl (Or.inl rfl) (pe_lst pa_nil))
      (pss_cons (ps_for PassesOwn.never rfl (pi_range1 (by rfl) T.b_range (pa_cons (pv 1) pa_nil)) (pg_name (i := 8) sc_law_names.nd rfl (Or.inl rfl))
        (pss_cons (ps_set (i := 9) sc_law_names.nd rfl (Or.inl rfl) (pe_slice sl_list (pv 3) po_none (po_some (pv 5))))
          (pss_cons (ps_asg (pe_ix ix_str (pv 2) (pe_op op_mod (pe_op op_add (pe_op op_fdiv (pv 4) pe_int) (pe_op op_mul pe_int (pv 8))) pe_int) (fun _ _ => rfl)) (pg_sub (pv 9) (pv 6) set_list))
          (pss_one (ps_expr (pe_bm PySem.F.plainAttrs_list PySem.F.slot_list_append PySem.F.type_list_append mt_append (pv 7) (pa_cons (pe_join pe_str (pv 9)) pa_nil)))))))
      (pss_one (ps_ret (pv 7))))))))))), ?_⟩
    refine ⟨8, rfl, by decide, by decide, fun D hD => ?_⟩
    have nD := S.new hD
    refine lc_rel (walk_range (lo := 0) (n := 8)) (fun H2 => Go d a H H2 ∧ ∃ o, H2 D = some o) (fun _ v => ∃ c, v = V.str (oneS c)) (by decide) ⟨S.refl.upd hD nD, _, upd_same⟩ (fun H2 zs g => ⟨g.1.upd hD nD, _, upd_same⟩) (fun _ _ => trivial) (fun i x H2 H2' N hi g hy kN => ?_) (fun H2 ys g eD hl hR => ?_) yes_if gname_mono
    · obtain ⟨rfl, rfl⟩ := hy
      refine ⟨rfl, rfl, ?_⟩
      refine ⟨_, rfl, _, rfl, d, a, ns, rfl, S.go g.1, fun n H3 n0 n1 g3 => ?_⟩
      have hmm := mod_in n (n := 26) (by decide)
      obtain ⟨j, ej⟩ := Int.eq_ofNat_of_zero_le hmm.1
      have hj : j < 26 := by omega
      refine ⟨_, _, rfl, rfl, pos (by decide), abcS, _, 97 + j, rfl, rfl, (by decide +kernel), ?_, kN _ _ ⟨97 + j, rfl⟩ ⟨g.1.trans g3, ?_⟩ ?_⟩
      · rw [ej]
        exact atI_nat (abc_get j hj)
      · obtain ⟨o, ho⟩ := g.2
        exact ⟨o, g3.1 _ _ ho nD.symm⟩
      · obtain ⟨o, ho⟩ := g.2
        rw [g3.1 _ _ ho nD.symm, ho]
    · obtain ⟨cs, rfl⟩ := strs_of hR
      rw [List.length_map, List.length_map] at hl
      refine ⟨_, rfl, d, a, ns, rfl, S.go g.1, fun n H3 n0 n1 g3 => ?_⟩
      have eD3 : H3 D = some (.lst ((cs.map oneS).map V.str)) := g3.1 _ _ eD nD.symm
      have g13 := g.1.trans g3
      -- _law_number_here % 3 == 0 and _law_many < 9
      refine ⟨_, rfl, _, _, rfl, rfl, pos (by decide), rfl, _, rfl, ?_⟩
      refine ite2 (fun e => ⟨_, rfl, _, _, rfl, rfl, _, rfl, iteD (by omega) ?_⟩) (fun e => iteF ?_)
      all_goals
        have q8 := mod_in (n / 3) (n := 8) (by decide)
        obtain ⟨sz, esz⟩ := Int.eq_ofNat_of_zero_le (show 0 ≤ 1 + n / 3 % 8 by omega)
        have hsz : 1 ≤ sz ∧ sz ≤ 8 := by omega
        refine ⟨_, rfl, _, _, rfl, rfl, ⟨by decide, by decide⟩, _, _, rfl, rfl, pos (by decide), _, _, rfl, rfl, ?_⟩
        refine ⟨_, rfl, _, _, rfl, rfl, ⟨by decide, by decide⟩, _, rfl, _, _, rfl, rfl, pos (by omega), Nat.zero_le _, fun f hf => ?_⟩
        have qt := mod_in (n / 24) (n := (sz : Int)) (by omega)
        obtain ⟨t, et⟩ := Int.eq_ofNat_of_zero_le qt.1
        have ht : t < sz := by omega
        dsimp only
        rw [esz, et]
        have s3 := same_new (o := .lst []) hf
        have nDf : D ≠ f := ne_of_none eD3 hf
        have hcs : (cs.take sz).length = sz := by
          rw [List.length_take]
          omega
        have hcs2 : t < (cs.take sz).length := by omega
        refine ⟨_, rfl, _, rfl, by omega, by omega, ?_⟩
        refine for_it (walk_range (lo := 0) (n := ((m : Int)).toNat)) (fun i σ H4 => ∃ (v8 v9 : Option V), σ = [some (.ref d), some (.int m), some (.str abcS), some (.ref D), some (.int n), some (.int sz), some (.int t), some (.ref f), v8, v9] ∧ But f (upd H3 f (.lst [])) H4 ∧
            H4 f = some (.lst ((namesK cs sz t (n / 192) i).map V.str))) ?_ ?_ ?_ ?_
        · exact ⟨none, none, rfl, But.refl _ _, upd_same⟩
        · exact fun _ _ _ _ _ => trivial
        · rintro i x σ H4x H4 hi ⟨v8, v9, rfl, b4, e4⟩ ⟨rfl, rfl⟩
          have hi13 : i < 13 := by omega
          show gName 8 (V.int (0 + (i : Int))) _ _ _
          rw [Int.zero_add]
          have hDb : H4 D = some (.lst ((cs.map oneS).map V.str)) := b4 _ _ (s3 _ _ eD3) nDf
          refine ⟨_, rfl, _, rfl, _, rfl, D, _, rfl, SqL.of hDb, fun p hp => ?_⟩
          refine ⟨_, rfl, _, rfl, _, _, rfl, rfl, ⟨by decide, by decide⟩, _, rfl, _, _, rfl, rfl, .inl (by decide), _, _, rfl, rfl, _, _, rfl, rfl, pos (by decide), abcS, _, _, rfl, rfl, (by decide +kernel), letN_at (n / 192) i, ?_⟩
          have hcut : cutV ((cs.map oneS).map V.str) none (some (sz : Int)) = ((cs.take sz).map oneS).map V.str := by
            rw [cutV_to, ← List.map_take, ← List.map_take]
          have hset : (cutV ((cs.map oneS).map V.str) none (some (sz : Int))).set t (V.str (oneS (letN (n / 192) i))) = ((nameL cs sz t (n / 192) i).map oneS).map V.str := by
            rw [hcut, ← List.map_set, ← List.map_set] <;> rfl
          refine ⟨_, rfl, _, rfl, p, _, _, t, rfl, rfl, upd_same, ?_, ?_⟩
          · rw [hcut, List.length_map, List.length_map, hcs]
            exact ixN_nat ht
          have nfp : f ≠ p := ne_of_none e4 hp
          have hf4 : ∀ (zs ys : List V), upd (upd H4 p (.lst zs)) p (.lst ys) f = some (.lst ((namesK cs sz t (n / 192) i).map V.str)) := fun zs ys => by
            rw [upd_ne nfp, upd_ne nfp]
            exact e4
          have sumL : (((nameL cs sz t (n / 192) i).map oneS).map (·.length)).sum + ((nameL cs sz t (n / 192) i).map oneS).length * (Str.ofString "").length ≤ 16777216 := by
            rw [ones_sum, len_tl, empty_tl]
            unfold nameL
            rw [List.length_set, hcs]
            show sz + _ * 0 ≤ _
            omega
          refine ⟨_, rfl, .inl ⟨rfl, _, SqL.of (hf4 _ _)⟩, ⟨_, rfl⟩, _, rfl, _, p, (nameL cs sz t (n / 192) i).map oneS, rfl, rfl, .inl (SqL.of ?_), sumL, f, _, _, rfl, rfl, hf4 _ _, ?_, ?_⟩
          · rw [upd_same]
            exact congrArg (fun z => some (HO.lst z)) hset
          · rw [List.length_map]
            unfold namesK
            rw [List.length_map, List.length_range]
            exact Nat.lt_trans hi13 (by decide)
          · refine ⟨_, _, rfl, fun b o eb nb => ?_, ?_⟩
            · rw [upd_ne nb]
              have e5 := b4 b o eb nb
              rw [upd_ne (ne_of_none e5 hp), upd_ne (ne_of_none e5 hp)]
              exact e5
            · rw [upd_same, namesK_succ, List.map_append] <;> rfl
        · rintro σ H4 ⟨v8, v9, rfl, b4, e4⟩
          have em : ((m : Nat) : Int).toNat = m := Int.toNat_natCast m
          rw [em] at e4
          refine ⟨_, rfl, ?_⟩
          have fH : H f = none := by
            cases q : H f with
            | none => rfl
            | some o =>
              by_cases hfd : f = d
              · obtain ⟨z, hz⟩ := g13.2
                rw [hfd, hz] at hf
                cases hf
              · rw [g13.1 f o q hfd] at hf
                cases hf
          refine k f (namesK cs sz t (n / 192) m) H4 ?_ ?_ (namesK_nd hcs2 (by omega)) ?_ e4 fH
          · unfold namesK
            rw [List.length_map, List.length_range]
          · intro x hx
            unfold namesK at hx
            obtain ⟨j, _, rfl⟩ := List.mem_map.mp hx
            exact nameS_len hsz.2
          · have ndf : d ≠ f := S.new fH
            refine ⟨fun b o eb nb => ?_, ?_⟩
            · exact b4 b o (s3 _ _ (g13.1 b o eb nb)) (ne_of_none eb fH)
            · obtain ⟨z, hz⟩ := g13.2
              exact ⟨z, b4 _ _ (s3 _ _ hz) ndf⟩
end
end Fw

/-! ==== FwL3 ==== -/
set_option Elab.async false
set_option linter.all false
set_option maxRecDepth 100000
set_option maxHeartbeats 4000000
/-! walks of the law: the bounds, the moves, the followers, the cues -/
namespace Fw
open PySem PySem.Spec PyProof.Rows L2 TL
section
variable {P : Program} {w : World} {K : PySem.W.Frag} {mg : Str → Option Value} {base : Heap}
def pk (ps : List (Str × Addr)) : List (Key × V) := ps.map fun p => ((Sum.inr p.1 : Key), V.ref p.2)
theorem pk_none {x : Str} : ∀ {ps : List (Str × Addr)}, x ∉ ps.map (·.1) → valV (pk ps) (Sum.inr x) = none
  | [], _ => rfl
  | p :: r, h => by
    unfold pk
    rw [List.map_cons, valV_neg (fun z => h (by
      injection z with z
      rw [← z]
      exact List.mem_cons_self))]
    exact pk_none fun z => h (List.mem_cons_of_mem _ z)
theorem pk_some {p : Str × Addr} : ∀ {ps : List (Str × Addr)}, (ps.map (·.1)).Nodup → p ∈ ps → valV (pk ps) (Sum.inr p.1) = some (.ref p.2)
  | [], _, h => by cases h
  | q :: r, nd, h => by
    have nd2 := List.nodup_cons.mp nd
    unfold pk
    rw [List.map_cons]
    rcases List.mem_cons.mp h with e | h
    · rw [← e]
      exact valV_pos rfl
    · rw [valV_neg (fun z => by
        injection z with z
        refine nd2.1 ?_
        show q.1 ∈ r.map (·.1)
        rw [z]
        exact List.mem_map.mpr ⟨p, h, rfl⟩)]
      exact pk_some nd2.2 h
theorem pk_keys (ps : List (Str × Addr)) : (pk ps).map (fun kv => kV kv.1) = (ps.map (·.1)).map V.str := by
  unfold pk
  rw [List.map_map, List.map_map] <;> rfl
def TupAt (H : Hp) (p : Str × Addr) : Prop := ∃ lo hi : Int, H p.2 = some (.tup [.int lo, .int hi]) ∧ -1000000000 ≤ lo ∧ lo ≤ hi ∧ hi ≤ 1000000000
structure BdAt (H : Hp) (l : Addr) (ps : List (Str × Addr)) : Prop where
  at_ : H l = some (.dK (pk ps))
  nd : (ps.map (·.1)).Nodup
  tp : ∀ p ∈ ps, TupAt H p
  sm : ∀ p ∈ ps, p.1.length ≤ 8
theorem TupAt.go {H H' : Hp} {d a : Addr} {p : Str × Addr} {ns : List Int} (S : St K H d a ns) (g : Go d a H H') (h : TupAt H p) : TupAt H' p := by
  obtain ⟨lo, hi, h1, h2⟩ := h
  obtain ⟨⟨z, hz⟩, _⟩ := S
  exact ⟨lo, hi, g.1 _ _ h1 (ne_of h1 hz (by intro z; cases z)), h2⟩
theorem BdAt.go {H H' : Hp} {d a l : Addr} {ps : List (Str × Addr)} {ns : List Int} (S : St K H d a ns) (g : Go d a H H') (n : l ≠ d) (h : BdAt H l ps) : BdAt H' l ps :=
  ⟨g.1 _ _ h.at_ n, h.nd, fun p hp => (h.tp p hp).go S g, h.sm⟩
theorem two_sorted {i j : Int} {ns : List Int} (hp : ns.Perm [i, j]) (hs : ns.Pairwise (· ≤ ·)) {A : Int → Prop} (hi : A i) (hj : A j) : ∃ lo hi, ns = [lo, hi] ∧ lo ≤ hi ∧ A lo ∧ A hi := by
  have hl := hp.length_eq
  match ns, hl with
  | [a, b], _ =>
    have h1 : ∀ x ∈ [a, b], A x := fun x hx => by
      have := hp.mem_iff.mp hx
      simp only [List.mem_cons, List.not_mem_nil, or_false] at this
      rcases this with rfl | rfl
      · exact hi
      · exact hj
    refine ⟨a, b, rfl, ?_, h1 a (by simp), h1 b (by simp)⟩
    rw [List.pairwise_cons] at hs
    exact hs.1 b (by simp)
def spBounds (K : PySem.W.Frag) : Sp := fun vs H Q _ => ∃ (d a : Addr) (ns : List Int), vs = [.ref d] ∧ St K H d a ns ∧ ∀ l ps H', ps.length = 9 → BdAt H' l ps → Go d a H H' → H l = none → Q (.ref l) H'
abbrev nn_law_bounds : List Str := ["_law_state", "_law_found", "_law_name", "_law_least", "_law_greatest"]
theorem sc_law_bounds : FnScope nn_law_bounds ["_law_state"] (defScope s_law_bounds) := ⟨rfl, rfl, rfl, by decide +kernel, rfl, by decide +kernel, by decide +kernel⟩
theorem ok_law_bounds (T : Tx K mg) : OkD P w K mg base CX0 3 ("_law_bounds", none) ["_law_state"] (spBounds K) := by
  obtain ⟨fd_law_names, G_law_names, b_law_names, k_law_names⟩ := ok_law_names (P := P) (w := w) (base := base) T
  obtain ⟨fd_law_place, G_law_place, b_law_place, k_law_place⟩ := ok_law_place (P := P) (w := w) (base := base) T
  refine OkD.mk T.f_law_bounds sc_law_bounds (fun _ _ _ _ _ _ us hl => match us, hl with | [_], _ => rfl) (fun vs H Q E h => ?_) (fun cdv A outer s H vs Q E hr h => ?_)
  · obtain ⟨d, a, ns, rfl, _⟩ := h
    rfl
  · obtain ⟨d, a, ns, rfl, S, k⟩ := h
    have hr_law_names : Room 2 _ := hr.mono (by decide)
    have hr_law_place : Room 2 _ := hr.mono (by decide)
    refine ⟨_, (pss_cons (ps_set (i := 1) sc_law_bounds.nd rfl (Or.inl rfl) pe_dnewK)
      (pss_cons (ps_for PassesOwn.never rfl (pi_list (pe_call G_law_names hr_law_names (by rfl) T.g_law_names k_law_names b_law_names .nil pass0 (pa_cons (pv 0) (pa_cons pe_int pa_nil)))) (pg_name (i := 2) sc_law_bounds.nd rfl (Or.inl rfl))
        (pss_cons (ps_asg (pe_callB cr_sorted (by rfl) T.b_sorted bv_sorted (pa_cons (pe_lst (pa_cons (pe_call G_law_place hr_law_place (by rfl) T.g_law_place k_law_place b_law_place .nil pass0 (pa_cons (pv 0) pa_nil)) (pa_cons (pe_call G_law_place hr_law_place (by rfl) T.g_law_place k_law_place b_law_place .nil pass0 (pa_cons (pv 0) pa_nil)) pa_nil))) pa_nil)) (pg_unl rfl (pgs_cons (pg_name (i := 3) sc_law_bounds.nd rfl (Or.inl rfl)) (pgs_cons (pg_name (i := 4) sc_law_bounds.nd rfl (Or.inl rfl)) pgs_nil))))
          (pss_one (ps_dput (hu_of hr) (pv 1) (pv 2) (pe_tup (pa_cons (pv 3) (pa_cons (pv 4) pa_nil))) rfl))))
      (pss_one (ps_ret (pv 1))))), ?_⟩
    intro f hf
    have ndf := S.new hf
    have s1 := same_new (o := .dK []) hf
    refine ⟨_, rfl, d, a, ns, 9, rfl, ⟨by decide, by decide⟩, S.same s1, fun l xs H1 hx hsm hnd g1 el hl => ?_⟩
    have nfl : l ≠ f := fun z => by
      rw [z, upd_same] at hl
      cases hl
    have hlH : H l = none := by
      rw [upd_ne nfl] at hl
      exact hl
    have ndl := S.new hlH
    refine ⟨l, rfl, ⟨_, SqL.of el⟩, ?_⟩
    refine for_it (walk_list (xs := xs.map V.str)) (fun i σ H2 => ∃ (v2 v3 v4 : Option V) (ps : List (Str × Addr)), σ = [some (.ref d), some (.ref f), v2, v3, v4] ∧ Go d a H H2 ∧ H2 l = some (.lst (xs.map V.str)) ∧ H2 f = some (.dK (pk ps)) ∧ ps.map (·.1) = xs.take i ∧ ∀ p ∈ ps, TupAt H2 p) ?_ ?_ ?_ ?_
    · exact ⟨none, none, none, [], rfl, (S.refl.on s1).trans g1, el, g1.1 _ _ upd_same ndf.symm, rfl, fun p hp => (by cases hp)⟩
    · rintro i σ H2 hi ⟨v2, v3, v4, ps, rfl, g2, e2, ef, ep, tp⟩
      exact SqL.of e2
    · rintro i x σ H0x H2 hi ⟨v2, v3, v4, ps, rfl, g2, e2, ef, ep, tp⟩ ⟨rfl, hx2⟩
      rw [List.getElem?_map] at hx2
      obtain ⟨y, hy, rfl⟩ := Option.map_eq_some_iff.mp hx2
      have hi9 : i < 9 := by
        rw [List.length_map, hx] at hi
        exact hi
      refine ⟨_, rfl, d, a, ns, rfl, S.go g2, fun p1 H3 lo1 hi1 g3 => ?_⟩
      refine ⟨_, rfl, d, a, ns, rfl, S.go (g2.trans g3), fun p2 H4 lo2 hi2 g4 => ⟨(by show 2 ≤ sizeLine; decide), fun q hq => ?_⟩⟩
      have s5 := same_new (o := .lst [.int p1, .int p2]) hq
      refine ⟨q, [p1, p2], rfl, SqL.of upd_same, (by show 2 < 64; decide), fun ns' r hp hs hr => ?_⟩
      obtain ⟨lo, hi, rfl, hle, b1, b2⟩ := two_sorted (A := fun z => -1000000000 ≤ z ∧ z ≤ 1000000000) hp hs ⟨lo1, hi1⟩ ⟨lo2, hi2⟩
      have s6 := same_new (o := .lst ([lo, hi].map V.int)) hr
      refine ⟨r, _, rfl, SqL.of upd_same, rfl, _, _, rfl, _, _, rfl, rfl, ?_⟩
      refine ⟨_, rfl, _, rfl, (by show 2 ≤ sizeLine; decide), fun t ht => ?_⟩
      have s7 := same_new (o := .tup [.int lo, .int hi]) ht
      have s57 := (s5.trans s6).trans s7
      have g27 := ((g3.trans g4).on s57)
      have ef7 := g27.1 _ _ ef ndf.symm
      have y_new : y ∉ ps.map (·.1) := fun hm => by
        rw [ep] at hm
        obtain ⟨j, hj⟩ := List.mem_iff_getElem?.mp hm
        rw [List.getElem?_take] at hj
        split at hj
        · rename_i hji
          have := nd_ix hnd hj hy
          omega
        · cases hj
      have lps : ps.length ≤ 9 := by
        have e := congrArg List.length ep
        rw [List.length_map, List.length_take] at e
        omega
      refine ⟨_, rfl, _, rfl, f, _, rfl, DPut.k (k := Sum.inr y) ef7 ?_, ?_⟩
      · unfold pk
        rw [List.length_map]
        exact Nat.lt_of_le_of_lt lps (by decide)
      rw [putK_new _ (pk_none y_new)]
      have nlf : l ≠ f := nfl
      refine ⟨_, _, _, ps ++ [(y, t)], rfl, (g2.trans g27).upd hf ndf, ?_, ?_, ?_, fun p hp => ?_⟩
      · rw [upd_ne nlf]
        exact g27.1 _ _ e2 ndl.symm
      · rw [upd_same]
        unfold pk
        rw [List.map_append] <;> rfl
      · rw [List.map_append, ep, List.take_add_one, hy] <;> rfl
      · have ntf : ∀ {u : Addr} {zs : List V} {H9 : Hp}, H9 u = some (.tup zs) → H9 f = some (.dK (pk ps)) → u ≠ f := fun h1 h2 => ne_of h1 h2 (by intro z; cases z)
        rcases List.mem_append.mp hp with hp | hp
        · obtain ⟨a1, a2, a3, a4⟩ := (tp p hp).go (S.go g2) g27
          exact ⟨a1, a2, by rw [upd_ne (ntf a3 ef7)]; exact a3, a4⟩
        · rw [List.mem_singleton.mp hp]
          refine ⟨lo, hi, ?_, b1.1, hle, b2.2⟩
          show L2.upd _ f _ t = _
          rw [upd_ne (ntf (upd_same) ef7), upd_same]
    · rintro σ H2 ⟨v2, v3, v4, ps, rfl, g2, e2, ef, ep, tp⟩
      rw [List.length_map, List.take_length] at ep
      have el2 : ps.length = 9 := by
        have e := congrArg List.length ep
        rw [List.length_map, hx] at e
        exact e
      exact ⟨_, rfl, k f ps H2 el2 ⟨ef, by rw [ep]; exact hnd, tp, fun p hp => hsm _ (by rw [← ep]; exact List.mem_map.mpr ⟨p, hp, rfl⟩)⟩ g2 hf⟩
def spMovesL (K : PySem.W.Frag) : Sp := fun vs H Q _ => ∃ (d a l : Addr) (ns : List Int) (lo : Int) (ps : List (Str × Addr)), vs = [.ref d, .ref l, .int lo] ∧ (0 ≤ lo ∧ lo ≤ 1) ∧ St K H d a ns ∧ BdAt H l ps ∧ ps.length = 9 ∧ l ≠ d ∧
  ∀ m ms H', MvsAt H' m ms → ms.length ≤ 7 → (∀ x ∈ ms, mvSm x) → Go d a H H' → H m = none → Q (.ref m) H'
theorem dget_pk {H : Hp} {l : Addr} {ps : List (Str × Addr)} {p : Str × Addr} (B : BdAt H l ps) (hp : p ∈ ps) : DGet H l (.str p.1) (some (.ref p.2)) := by
  have q := DGet.k (k := Sum.inr p.1) B.at_
  rw [pk_some B.nd hp] at q
  exact q
abbrev nn_law_moves : List Str := ["_law_state", "_law_bounds_here", "_law_loose", "_law_number_here", "_law_machines", "_law_step", "_law_found", "_law_k", "_law_name", "_law_least", "_law_greatest", "_law_goal"]
theorem sc_law_moves : FnScope nn_law_moves ["_law_state", "_law_bounds_here", "_law_loose"] (defScope s_law_moves) := ⟨rfl, rfl, rfl, by decide +kernel, rfl, by decide +kernel, by decide +kernel⟩
theorem ok_law_moves (T : Tx K mg) : OkD P w K mg base CX0 3 ("_law_moves", none) ["_law_state", "_law_bounds_here", "_law_loose"] (spMovesL K) := by
  obtain ⟨fd_law_next, G_law_next, b_law_next, k_law_next⟩ := ok_law_next (P := P) (w := w) (base := base) T
  obtain ⟨fd_law_place, G_law_place, b_law_place, k_law_place⟩ := ok_law_place (P := P) (w := w) (base := base) T
  obtain ⟨fd_law_wait, G_law_wait, b_law_wait, k_law_wait⟩ := ok_law_wait (P := P) (w := w) (base := base) T
  refine OkD.mk T.f_law_moves sc_law_moves (fun _ _ _ _ _ _ us hl => match us, hl with | [_, _, _], _ => rfl) (fun vs H Q E h => ?_) (fun cdv A outer s H vs Q E hr h => ?_)
  · obtain ⟨d, a, l, ns, lo, ps, rfl, _⟩ := h
    rfl
  · obtain ⟨d, a, l, ns, lo, ps, rfl, hlo, S, B, hps, nld, k⟩ := h
    have hr_law_next : Room 1 _ := hr.mono (by decide)
    have hr_law_place : Room 2 _ := hr.mono (by decide)
    have hr_law_wait : Room 2 _ := hr.mono (by decide)
    refine ⟨_, (pss_cons (ps_set (i := 3) sc_law_moves.nd rfl (Or.inl rfl) (pe_call G_law_next hr_law_next (by rfl) T.g_law_next k_law_next b_law_next .nil pass0 (pa_cons (pv 0) pa_nil)))
      (pss_cons (ps_set (i := 4) sc_law_moves.nd rfl (Or.inl rfl) (pe_callTy (call_list_dK rfl) (by rfl) T.b_list bv_list (pa_cons (pv 1) pa_nil)))
      (pss_cons (ps_set (i := 5) sc_law_moves.nd rfl (Or.inl rfl) (pe_ix ix_list (pe_lst (pa_cons pe_int (pa_cons pe_int (pa_cons pe_int (pa_cons pe_int (pa_cons pe_int (pa_cons pe_int pa_nil))))))) (pe_op op_mod (pe_op op_fdiv (pv 3) pe_int) pe_int) (fun _ _ => rfl)))
      (pss_cons (ps_set (i := 6) sc_law_moves.nd rfl (Or.inl rfl) (pe_lst pa_nil))
      (pss_cons (ps_for PassesOwn.never rfl (pi_range1 (by rfl) T.b_range (pa_cons (pe_op op_add pe_int (pe_op op_mod (pe_op op_fdiv (pv 3) pe_int) (pe_op op_add pe_int (pv 2)))) pa_nil)) (pg_name (i := 7) sc_law_moves.nd rfl (Or.inl rfl))
        (pss_cons (ps_set (i := 8) sc_law_moves.nd rfl (Or.inl rfl) (pe_ix ix_list (pv 4) (pe_op op_mod (pe_op op_add (pv 3) (pe_op op_mul (pv 5) (pv 7))) pe_int) (fun _ _ => rfl)))
          (pss_cons (ps_asg (pe_dget (hu_of hr) (pv 1) (pv 8) (fun _ _ => rfl)) (pg_tup rfl (pgs_cons (pg_name (i := 9) sc_law_moves.nd rfl (Or.inl rfl)) (pgs_cons (pg_name (i := 10) sc_law_moves.nd rfl (Or.inl rfl)) pgs_nil))))
          (pss_cons (ps_set (i := 11) sc_law_moves.nd rfl (Or.inl rfl) (pe_op op_add (pv 9) (pe_op op_mod (pe_call G_law_next hr_law_next (by rfl) T.g_law_next k_law_next b_law_next .nil pass0 (pa_cons (pv 0) pa_nil)) (pe_op op_add (pe_op op_sub (pv 10) (pv 9)) pe_int))))
          (pss_cons (ps_if (pt_cmpR op_eq (pe_op op_mod (pe_op op_fdiv (pv 3) pe_int) pe_int) pe_int (by first | exact nomark _ | rfl))
            (pss_one (ps_set (i := 11) sc_law_moves.nd rfl (Or.inl rfl) (pe_call G_law_place hr_law_place (by rfl) T.g_law_place k_law_place b_law_place .nil pass0 (pa_cons (pv 0) pa_nil))))
            pss_nil)
          (pss_one (ps_expr (pe_bm PySem.F.plainAttrs_list PySem.F.slot_list_append PySem.F.type_list_append mt_append (pv 6) (pa_cons (pe_tup (pa_cons (pv 8) (pa_cons (pv 11) (pa_cons (pe_call G_law_wait hr_law_wait (by rfl) T.g_law_wait k_law_wait b_law_wait .nil pass0 (pa_cons (pv 0) pa_nil)) pa_nil)))) pa_nil)))))))))
      (pss_one (ps_ret (pv 6)))))))), ?_⟩
    refine ⟨_, rfl, d, a, ns, rfl, S, fun n H1 n0 n1 g1 => ?_⟩
    have B1 := B.go S g1 nld
    refine ⟨_, rfl, l, _, rfl, B1.at_, fun q hq => ?_⟩
    rw [pk_keys]
    have s2 := same_new (o := .lst ((ps.map (·.1)).map V.str)) hq
    refine ⟨(by show 6 ≤ sizeLine; decide), fun q2 hq2 => ?_⟩
    have s3 := same_new (o := .lst [V.int 1, V.int 2, V.int 4, V.int 5, V.int 7, V.int 8]) hq2
    have h6 := mod_in (n / 9) (n := 6) (by decide)
    obtain ⟨x6, hx6, ex6⟩ := ix_in (xs := [V.int 1, V.int 2, V.int 4, V.int 5, V.int 7, V.int 8]) h6.1 h6.2
    obtain ⟨st, rfl, hst⟩ : ∃ st : Int, x6 = .int st ∧ 0 ≤ st ∧ st ≤ 8 := by
      simp only [List.mem_cons, List.not_mem_nil, or_false] at hx6
      rcases hx6 with rfl | rfl | rfl | rfl | rfl | rfl
      · exact ⟨_, rfl, by decide, by decide⟩
      · exact ⟨_, rfl, by decide, by decide⟩
      · exact ⟨_, rfl, by decide, by decide⟩
      · exact ⟨_, rfl, by decide, by decide⟩
      · exact ⟨_, rfl, by decide, by decide⟩
      · exact ⟨_, rfl, by decide, by decide⟩
    refine ⟨_, rfl, _, _, rfl, rfl, ⟨by decide, by decide⟩, _, _, rfl, rfl, pos (by decide), q2, _, _, _, rfl, rfl, SqL.of upd_same, ex6, ?_⟩
    refine ⟨Nat.zero_le _, fun f hf => ?_⟩
    have s4 := same_new (o := .lst []) hf
    have s24 := (s2.trans s3).trans s4
    have g4 := g1.on s24
    have eq4 := s4 _ _ (s3 _ _ (upd_same (H := H1) (a := q) (o := .lst ((ps.map (·.1)).map V.str))))
    have fH : H f = none := by
      cases z : H f with
      | none => rfl
      | some o =>
        have z3 : f ≠ d := fun y => by
          obtain ⟨u, hu⟩ := g1.2
          rw [y, s3 _ _ (s2 _ _ hu)] at hf
          cases hf
        rw [s3 _ _ (s2 _ _ (g1.1 _ _ z z3))] at hf
        cases hf
    have ndf := S.new fH
    have nqf : q ≠ f := ne_of_none (s3 _ _ (upd_same (H := H1) (a := q) (o := .lst ((ps.map (·.1)).map V.str)))) hf
    have qd : q ≠ d := fun y => by
      obtain ⟨u, hu⟩ := g1.2
      rw [y, hu] at hq
      cases hq
    have hc := mod_in (n / 54) (n := 6 + lo) (by omega)
    obtain ⟨cn, ecn⟩ := Int.eq_ofNat_of_zero_le (show 0 ≤ 1 + n / 54 % (6 + lo) by omega)
    have hcn : cn ≤ 7 := by omega
    refine ⟨_, rfl, _, _, rfl, rfl, ⟨by decide, by decide⟩, _, rfl, _, _, rfl, rfl, _, _, rfl, rfl, pos (by omega), _, _, rfl, rfl, (cn : Int), congrArg (fun z => [V.int z]) ecn, by omega, by omega, ?_⟩
    refine for_it (walk_range (lo := 0) (n := cn)) (fun i σ H5 => ∃ (v7 v8 v9 v10 v11 : Option V) (ts : List Addr) (ms : List (Str × Int × Int)), σ = [some (.ref d), some (.ref l), some (.int lo), some (.int n), some (.ref q), some (.int st), some (.ref f), v7, v8, v9, v10, v11] ∧ Go d a H H5 ∧
      H5 q = some (.lst ((ps.map (·.1)).map V.str)) ∧ H5 f = some (.lst (ts.map V.ref)) ∧ Paired (MvAt H5) ts ms ∧ ts.length = i ∧ ∀ m ∈ ms, mvSm m) ?_ ?_ ?_ ?_
    · exact ⟨none, none, none, none, none, [], [], rfl, g4, eq4, upd_same, .nil, rfl, fun m hm => (by cases hm)⟩
    · exact fun _ _ _ _ _ => trivial
    · rintro i x σ H5x H5 hi ⟨v7, v8, v9, v10, v11, ts, ms, rfl, g5, eq5, ef5, pm, lt, hsm⟩ ⟨rfl, rfl⟩
      have lk : (((ps.map (·.1)).map V.str).length : Int) = 9 := by
        rw [List.length_map, List.length_map, hps] <;> rfl
      have h9 := mod_in (n + st * (0 + (i : Int))) (n := 9) (by decide)
      obtain ⟨xk, hxk, exk⟩ := ix_in (xs := (ps.map (·.1)).map V.str) h9.1 (by rw [lk]; exact h9.2)
      obtain ⟨y, hy, rfl⟩ := List.mem_map.mp hxk
      obtain ⟨p, hp, rfl⟩ := List.mem_map.mp hy
      have B5 := B.go S g5 nld
      obtain ⟨lw, hw_, ht, b1, b2, b3⟩ := B5.tp p hp
      refine ⟨_, rfl, _, rfl, _, rfl, _, rfl, _, _, rfl, rfl, .inl ⟨by omega, by omega⟩, _, _, rfl, rfl, _, _, rfl, rfl, pos (by decide), q, _, _, _, rfl, rfl, SqL.of eq5, exk, ?_⟩
      refine ⟨_, rfl, _, rfl, l, _, rfl, dget_pk B5 hp, p.2, _, rfl, SqT.of ht, rfl, _, _, rfl, _, _, rfl, rfl, ?_⟩
      refine ⟨_, rfl, _, rfl, d, a, ns, rfl, S.go g5, fun n2 H6 m0 m1 g6 => ?_⟩
      refine ⟨_, rfl, _, rfl, _, _, rfl, rfl, _, _, rfl, rfl, _, _, rfl, rfl, pos (by omega), _, _, rfl, rfl, ?_⟩
      have hg := mod_in n2 (n := hw_ - lw + 1) (by omega)
      refine ⟨_, rfl, _, _, rfl, rfl, ⟨by decide, by decide⟩, _, _, rfl, rfl, pos (by decide), rfl, _, rfl, ?_⟩
      have hb0 : -1000000000 ≤ lw + n2 % (hw_ - lw + 1) := by omega
      have hb1 : lw + n2 % (hw_ - lw + 1) ≤ 1000000000 := by omega
      refine ite2 (fun e => ?_) (fun e => ?_)
      · refine ⟨_, rfl, d, a, ns, rfl, S.go (g5.trans g6), fun gl H7 gl0 gl1 g7 => ?_⟩
        have g67 := g6.trans g7
        have ef7 := g67.1 _ _ ef5 ndf.symm
        refine ⟨_, rfl, .inl ⟨rfl, _, SqL.of ef7⟩, _, rfl, _, rfl, _, rfl, d, a, ns, rfl, S.go (g5.trans g67), fun wt H8 w0 w1 g8 => ⟨(by show 3 ≤ sizeLine; decide), fun t ht8 => ?_⟩⟩
        have s9 := same_new (o := .tup [.str p.1, .int gl, .int wt]) ht8
        have g69 := (g67.trans g8).on s9
        have ef9 := g69.1 _ _ ef5 ndf.symm
        refine ⟨f, _, _, rfl, rfl, ef9, ?_, ?_⟩
        · rw [List.length_map, lt]
          exact Nat.lt_of_lt_of_le (show i < 7 by omega) (by decide)
        have hdz := (S.go g5).1
        obtain ⟨z5, hz5⟩ := hdz
        have keep : ∀ {u : Addr} {zs : List V}, H5 u = some (.tup zs) → upd (upd H8 t (.tup [.str p.1, .int gl, .int wt])) f (.lst (ts.map V.ref ++ [V.ref t])) u = some (.tup zs) := fun {u zs} e => by
          have e9 := g69.1 _ _ e (ne_of e hz5 (by intro z; cases z))
          rw [upd_ne (ne_of e9 ef9 (by intro z; cases z))]
          exact e9
        refine ⟨_, _, _, _, _, ts ++ [t], ms ++ [(p.1, gl, wt)], rfl, (g5.trans g69).upd fH ndf, ?_, ?_, ?_, ?_, ?_⟩
        · rw [upd_ne nqf]
          exact g69.1 _ _ eq5 qd
        · rw [upd_same, List.map_append] <;> rfl
        · refine Paired.app (Paired.mapP pm fun u m e => keep e) (.cons ?_ .nil)
          show L2.upd _ f _ t = _
          rw [upd_ne (ne_of (upd_same (H := H8) (a := t) (o := .tup [.str p.1, .int gl, .int wt])) ef9 (by intro z; cases z)), upd_same]
        · rw [List.length_append, lt] <;> rfl
        · intro m hm
          rcases List.mem_append.mp hm with hm | hm
          · exact hsm m hm
          · rw [List.mem_singleton.mp hm]
            exact ⟨B.sm p hp, ⟨gl0, gl1⟩, w0, w1⟩
      · skip
        have g67 := g6
        have ef7 := g67.1 _ _ ef5 ndf.symm
        refine ⟨_, rfl, .inl ⟨rfl, _, SqL.of ef7⟩, _, rfl, _, rfl, _, rfl, d, a, ns, rfl, S.go (g5.trans g67), fun wt H8 w0 w1 g8 => ⟨(by show 3 ≤ sizeLine; decide), fun t ht8 => ?_⟩⟩
        have s9 := same_new (o := .tup [.str p.1, .int (lw + n2 % (hw_ - lw + 1)), .int wt]) ht8
        have g69 := (g67.trans g8).on s9
        have ef9 := g69.1 _ _ ef5 ndf.symm
        refine ⟨f, _, _, rfl, rfl, ef9, ?_, ?_⟩
        · rw [List.length_map, lt]
          exact Nat.lt_of_lt_of_le (show i < 7 by omega) (by decide)
        have hdz := (S.go g5).1
        obtain ⟨z5, hz5⟩ := hdz
        have keep : ∀ {u : Addr} {zs : List V}, H5 u = some (.tup zs) → upd (upd H8 t (.tup [.str p.1, .int (lw + n2 % (hw_ - lw + 1)), .int wt])) f (.lst (ts.map V.ref ++ [V.ref t])) u = some (.tup zs) := fun {u zs} e => by
          have e9 := g69.1 _ _ e (ne_of e hz5 (by intro z; cases z))
          rw [upd_ne (ne_of e9 ef9 (by intro z; cases z))]
          exact e9
        refine ⟨_, _, _, _, _, ts ++ [t], ms ++ [(p.1, lw + n2 % (hw_ - lw + 1), wt)], rfl, (g5.trans g69).upd fH ndf, ?_, ?_, ?_, ?_, ?_⟩
        · rw [upd_ne nqf]
          exact g69.1 _ _ eq5 qd
        · rw [upd_same, List.map_append] <;> rfl
        · refine Paired.app (Paired.mapP pm fun u m e => keep e) (.cons ?_ .nil)
          show L2.upd _ f _ t = _
          rw [upd_ne (ne_of (upd_same (H := H8) (a := t) (o := .tup [.str p.1, .int (lw + n2 % (hw_ - lw + 1)), .int wt])) ef9 (by intro z; cases z)), upd_same]
        · rw [List.length_append, lt] <;> rfl
        · intro m hm
          rcases List.mem_append.mp hm with hm | hm
          · exact hsm m hm
          · rw [List.mem_singleton.mp hm]
            exact ⟨B.sm p hp, ⟨hb0, hb1⟩, w0, w1⟩
    · rintro σ H5 ⟨v7, v8, v9, v10, v11, ts, ms, rfl, g5, eq5, ef5, pm, lt, hsm⟩
      refine ⟨_, rfl, k f ms H5 ⟨ts, ef5, pm⟩ ?_ hsm g5 fH⟩
      rw [← pm.length, lt]
      exact hcn
end
end Fw

/-! ==== FwL4 ==== -/
set_option Elab.async false
set_option linter.all false
set_option maxRecDepth 100000
set_option maxHeartbeats 4000000
/-! walks of the law: the followers, the cues -/
namespace Fw
open PySem PySem.Spec PyProof.Rows L2 TL
section
variable {P : Program} {w : World} {K : PySem.W.Frag} {mg : Str → Option Value} {base : Heap}
def spFolsL (K : PySem.W.Frag) : Sp := fun vs H Q _ => ∃ (d a nl : Addr) (ns : List Int) (ia im lo : Int) (xs : List Str), vs = [.ref d, .ref nl, .int ia, .int im, .int lo] ∧ (0 ≤ ia ∧ ia < im ∧ im ≤ 13) ∧ (0 ≤ lo ∧ lo ≤ 1) ∧ St K H d a ns ∧
  H nl = some (.lst (xs.map V.str)) ∧ xs.length = 13 ∧ (∀ x ∈ xs, x.length ≤ 8) ∧ nl ≠ d ∧ ∀ m fs H', FosAt H' m fs → fs.length ≤ 4 → (∀ x ∈ fs, foSm x) → Go d a H H' → H m = none → Q (.ref m) H'
abbrev nn_law_followers : List Str := ["_law_state", "_law_names_here", "_law_at", "_law_many", "_law_loose", "_law_number_here", "_law_found", "_law_k", "_law_more"]
theorem sc_law_followers : FnScope nn_law_followers ["_law_state", "_law_names_here", "_law_at", "_law_many", "_law_loose"] (defScope s_law_followers) := ⟨rfl, rfl, rfl, by decide +kernel, rfl, by decide +kernel, by decide +kernel⟩
theorem ok_law_followers (T : Tx K mg) : OkD P w K mg base CX0 3 ("_law_followers", none) ["_law_state", "_law_names_here", "_law_at", "_law_many", "_law_loose"] (spFolsL K) := by
  obtain ⟨fd_law_next, G_law_next, b_law_next, k_law_next⟩ := ok_law_next (P := P) (w := w) (base := base) T
  obtain ⟨fd_law_wait, G_law_wait, b_law_wait, k_law_wait⟩ := ok_law_wait (P := P) (w := w) (base := base) T
  refine OkD.mk T.f_law_followers sc_law_followers (fun _ _ _ _ _ _ us hl => match us, hl with | [_, _, _, _, _], _ => rfl) (fun vs H Q E h => ?_) (fun cdv A outer s H vs Q E hr h => ?_)
  · obtain ⟨d, a, nl, ns, ia, im, lo, xs, rfl, _⟩ := h
    rfl
  · obtain ⟨d, a, nl, ns, ia, im, lo, xs, rfl, hi3, hlo, S, hnl, hx13, hx8, nld, k⟩ := h
    have hr_law_next : Room 1 _ := hr.mono (by decide)
    have hr_law_wait : Room 2 _ := hr.mono (by decide)
    refine ⟨_, (pss_cons (ps_set (i := 5) sc_law_followers.nd rfl (Or.inl rfl) (pe_call G_law_next hr_law_next (by rfl) T.g_law_next k_law_next b_law_next .nil pass0 (pa_cons (pv 0) pa_nil)))
      (pss_cons (ps_set (i := 6) sc_law_followers.nd rfl (Or.inl rfl) (pe_lst pa_nil))
      (pss_cons (ps_for PassesOwn.never rfl (pi_range1 (by rfl) T.b_range (pa_cons (pe_ix ix_list (pe_lst (pa_cons pe_int (pa_cons pe_int (pa_cons pe_int (pa_cons (pe_op op_add pe_int (pv 4)) pa_nil))))) (pe_op op_mod (pv 5) pe_int) (fun _ _ => rfl)) pa_nil)) (pg_name (i := 7) sc_law_followers.nd rfl (Or.inl rfl))
        (pss_cons (ps_set (i := 8) sc_law_followers.nd rfl (Or.inl rfl) (pe_call G_law_next hr_law_next (by rfl) T.g_law_next k_law_next b_law_next .nil pass0 (pa_cons (pv 0) pa_nil)))
          (pss_one (ps_if (pt_cmpR op_eq (pe_op op_mod (pv 8) pe_int) pe_int (by first | exact nomark _ | rfl))
            (pss_one (ps_expr (pe_bm PySem.F.plainAttrs_list PySem.F.slot_list_append PySem.F.type_list_append mt_append (pv 6) (pa_cons (pe_tup (pa_cons (pe_ix ix_list (pv 1) (pe_op op_mod (pe_op op_fdiv (pv 8) pe_int) pe_int) (fun _ _ => rfl)) (pa_cons (pe_call G_law_wait hr_law_wait (by rfl) T.g_law_wait k_law_wait b_law_wait .nil pass0 (pa_cons (pv 0) pa_nil)) pa_nil))) pa_nil))))
            (pss_one (ps_if (pt_cmpR op_lt (pe_op op_add (pv 2) pe_int) (pv 3) (by first | exact nomark _ | rfl))
                (pss_one (ps_expr (pe_bm PySem.F.plainAttrs_list PySem.F.slot_list_append PySem.F.type_list_append mt_append (pv 6) (pa_cons (pe_tup (pa_cons (pe_ix ix_list (pv 1) (pe_op op_add (pe_op op_add (pv 2) pe_int) (pe_op op_mod (pe_op op_fdiv (pv 8) pe_int) (pe_op op_sub (pe_op op_sub (pv 3) (pv 2)) pe_int))) (fun _ _ => rfl)) (pa_cons (pe_call G_law_wait hr_law_wait (by rfl) T.g_law_wait k_law_wait b_law_wait .nil pass0 (pa_cons (pv 0) pa_nil)) pa_nil))) pa_nil))))
                pss_nil))))))
      (pss_one (ps_ret (pv 6)))))), ?_⟩
    refine ⟨_, rfl, d, a, ns, rfl, S, fun n H1 n0 n1 g1 => ?_⟩
    refine ⟨Nat.zero_le _, fun f hf => ?_⟩
    have s2 := same_new (o := .lst []) hf
    have g2 := g1.on s2
    have fH : H f = none := by
      cases z : H f with
      | none => rfl
      | some o =>
        have z3 : f ≠ d := fun y => by
          obtain ⟨u, hu⟩ := g1.2
          rw [y, hu] at hf
          cases hf
        rw [g1.1 _ _ z z3] at hf
        cases hf
    have ndf := S.new fH
    have nlf : nl ≠ f := ne_of_none hnl fH
    have h4 := mod_in n (n := 4) (by decide)
    obtain ⟨x4, hx4, ex4⟩ := ix_in (xs := [V.int 0, V.int 1, V.int 2, V.int (3 + lo)]) h4.1 h4.2
    obtain ⟨cn, rfl, hcn⟩ : ∃ cn : Nat, x4 = .int (cn : Int) ∧ cn ≤ 4 := by
      simp only [List.mem_cons, List.not_mem_nil, or_false] at hx4
      rcases hx4 with rfl | rfl | rfl | rfl
      · exact ⟨0, rfl, by decide⟩
      · exact ⟨1, rfl, by decide⟩
      · exact ⟨2, rfl, by decide⟩
      · exact ⟨(3 + lo).toNat, congrArg V.int (Int.toNat_of_nonneg (by omega)).symm, by omega⟩
    refine ⟨_, rfl, _, _, rfl, rfl, (by show 4 ≤ sizeLine; decide), fun q hq => ?_⟩
    have s3 := same_new (o := .lst [V.int 0, V.int 1, V.int 2, V.int (3 + lo)]) hq
    refine ⟨_, rfl, _, _, rfl, rfl, pos (by decide), q, _, _, _, rfl, rfl, SqL.of upd_same, ex4, (cn : Int), rfl, by omega, by omega, ?_⟩
    refine for_it (walk_range (lo := 0) (n := cn)) (fun i σ H5 => ∃ (v7 v8 : Option V) (ts : List Addr) (fs : List (Str × Int)), σ = [some (.ref d), some (.ref nl), some (.int ia), some (.int im), some (.int lo), some (.int n), some (.ref f), v7, v8] ∧ Go d a H H5 ∧
      H5 f = some (.lst (ts.map V.ref)) ∧ Paired (FoAt H5) ts fs ∧ ts.length ≤ i ∧ ∀ m ∈ fs, foSm m) ?_ ?_ ?_ ?_
    · exact ⟨none, none, [], [], rfl, g2.on s3, s3 _ _ upd_same, .nil, Nat.zero_le _, fun m hm => (by cases hm)⟩
    · exact fun _ _ _ _ _ => trivial
    · rintro i x σ H5x H5 hi ⟨v7, v8, ts, fs, rfl, g5, ef5, pm, lt, hsm⟩ ⟨rfl, rfl⟩
      have enl := g5.1 _ _ hnl nld
      obtain ⟨z5, hz5⟩ := (S.go g5).1
      have lk : ((xs.map V.str).length : Int) = 13 := by
        rw [List.length_map, hx13] <;> rfl
      refine ⟨_, rfl, d, a, ns, rfl, S.go g5, fun n2 H6 m0 m1 g6 => ?_⟩
      have enl6 := g6.1 _ _ enl nld
      have ef6 := g6.1 _ _ ef5 ndf.symm
      refine ⟨_, rfl, _, _, rfl, rfl, pos (by decide), rfl, _, rfl, ?_⟩
      refine ite2 (fun e => ?_) (fun e => ?_)
      · have h13 := mod_in (n2 / 16) (n := 13) (by decide)
        obtain ⟨xk, hxk, exk⟩ := ix_in (xs := xs.map V.str) h13.1 (by rw [lk]; exact h13.2)
        obtain ⟨y, hy, rfl⟩ := List.mem_map.mp hxk
        refine ⟨_, rfl, .inl ⟨rfl, _, SqL.of ef6⟩, _, rfl, _, rfl, _, _, rfl, rfl, ⟨by decide, by decide⟩, _, _, rfl, rfl, pos (by decide), nl, _, _, _, rfl, rfl, SqL.of enl6, exk, _, rfl, d, a, ns, rfl, S.go (g5.trans g6), fun wt H8 w0 w1 g8 => ⟨(by show 2 ≤ sizeLine; decide), fun t ht8 => ?_⟩⟩
        have g8' := g6.trans g8
        have s9 := same_new (o := .tup [.str y, .int wt]) ht8
        have g69 := g8'.on s9
        have ef9 := g69.1 _ _ ef5 ndf.symm
        refine ⟨f, _, _, rfl, rfl, ef9, ?_, ?_⟩
        · rw [List.length_map]
          exact Nat.lt_of_lt_of_le (show ts.length < 7 by omega) (by decide)
        have keep : ∀ {u : Addr} {zs : List V}, H5 u = some (.tup zs) → upd (upd H8 t (.tup [.str y, .int wt])) f (.lst (ts.map V.ref ++ [V.ref t])) u = some (.tup zs) := fun {u zs} e => by
          have e9 := g69.1 _ _ e (ne_of e hz5 (by intro z; cases z))
          rw [upd_ne (ne_of e9 ef9 (by intro z; cases z))]
          exact e9
        refine ⟨_, _, ts ++ [t], fs ++ [(y, wt)], rfl, (g5.trans g69).upd fH ndf, ?_, ?_, ?_, ?_⟩
        · rw [upd_same, List.map_append] <;> rfl
        · refine Paired.app (Paired.mapP pm fun u m e => keep e) (.cons ?_ .nil)
          show L2.upd _ f _ t = _
          rw [upd_ne (ne_of (upd_same (H := H8) (a := t) (o := .tup [.str y, .int wt])) ef9 (by intro z; cases z)), upd_same]
        · rw [List.length_append]
          exact Nat.succ_le_succ lt
        · intro m hm
          rcases List.mem_append.mp hm with hm | hm
          · exact hsm m hm
          · rw [List.mem_singleton.mp hm]
            exact ⟨hx8 y hy, w0, w1⟩
      · refine ⟨_, rfl, _, _, rfl, rfl, _, rfl, _, _, rfl, rfl, _, rfl, ?_⟩
        refine ite2 (fun e2 => ?_) (fun e2 => ?_)
        · have e2' : ia + 1 < im := of_decide_eq_true e2
          have h13 := mod_in (n2 / 16) (n := im - ia - 1) (by omega)
          obtain ⟨xk, hxk, exk⟩ := ix_in (xs := xs.map V.str) (i := ia + 1 + n2 / 16 % (im - ia - 1)) (by omega) (by rw [lk]; omega)
          obtain ⟨y, hy, rfl⟩ := List.mem_map.mp hxk
          refine ⟨_, rfl, .inl ⟨rfl, _, SqL.of ef6⟩, _, rfl, _, rfl, _, _, rfl, rfl, _, rfl, _, _, rfl, rfl, ⟨by decide, by decide⟩, _, rfl, _, rfl, _, _, rfl, rfl, _, _, rfl, rfl, _, _, rfl, rfl, pos (by omega), _, _, rfl, rfl, nl, _, _, _, rfl, rfl, SqL.of enl6, exk, _, rfl, d, a, ns, rfl, S.go (g5.trans g6), fun wt H8 w0 w1 g8 => ⟨(by show 2 ≤ sizeLine; decide), fun t ht8 => ?_⟩⟩
          have g8' := g6.trans g8
          have s9 := same_new (o := .tup [.str y, .int wt]) ht8
          have g69 := g8'.on s9
          have ef9 := g69.1 _ _ ef5 ndf.symm
          refine ⟨f, _, _, rfl, rfl, ef9, ?_, ?_⟩
          · rw [List.length_map]
            exact Nat.lt_of_lt_of_le (show ts.length < 7 by omega) (by decide)
          have keep : ∀ {u : Addr} {zs : List V}, H5 u = some (.tup zs) → upd (upd H8 t (.tup [.str y, .int wt])) f (.lst (ts.map V.ref ++ [V.ref t])) u = some (.tup zs) := fun {u zs} e => by
            have e9 := g69.1 _ _ e (ne_of e hz5 (by intro z; cases z))
            rw [upd_ne (ne_of e9 ef9 (by intro z; cases z))]
            exact e9
          refine ⟨_, _, ts ++ [t], fs ++ [(y, wt)], rfl, (g5.trans g69).upd fH ndf, ?_, ?_, ?_, ?_⟩
          · rw [upd_same, List.map_append] <;> rfl
          · refine Paired.app (Paired.mapP pm fun u m e => keep e) (.cons ?_ .nil)
            show L2.upd _ f _ t = _
            rw [upd_ne (ne_of (upd_same (H := H8) (a := t) (o := .tup [.str y, .int wt])) ef9 (by intro z; cases z)), upd_same]
          · rw [List.length_append]
            exact Nat.succ_le_succ lt
          · intro m hm
            rcases List.mem_append.mp hm with hm | hm
            · exact hsm m hm
            · rw [List.mem_singleton.mp hm]
              exact ⟨hx8 y hy, w0, w1⟩
        · refine ⟨_, _, ts, fs, rfl, g5.trans g6, ef6, Paired.mapP pm fun u m e => g6.1 _ _ e (ne_of (show H5 u = some (.tup _) from e) hz5 (by intro z; cases z)), Nat.le_succ_of_le lt, hsm⟩
    · rintro σ H5 ⟨v7, v8, ts, fs, rfl, g5, ef5, pm, lt, hsm⟩
      refine ⟨_, rfl, k f fs H5 ⟨ts, ef5, pm⟩ ?_ hsm g5 fH⟩
      rw [← pm.length]
      exact Nat.le_trans lt hcn
theorem CueAt.go {H H' : Hp} {d a : Addr} {e : Trip} {c : Cue} {ns : List Int} (S : St K H d a ns) (g : Go d a H H') (h : CueAt H e c) : CueAt H' e c := by
  obtain ⟨⟨z, hz⟩, _⟩ := S
  obtain ⟨c1, ⟨ms, c2, c3⟩, ⟨fs, c4, c5⟩⟩ := h
  have tup : ∀ {t : Addr} {zs : List V}, H t = some (.tup zs) → H' t = some (.tup zs) := fun {t zs} q => g.1 _ _ q (ne_of q hz (by intro z; cases z))
  have lst : ∀ {t : Addr} {zs : List V}, H t = some (.lst zs) → H' t = some (.lst zs) := fun {t zs} q => g.1 _ _ q (ne_of q hz (by intro z; cases z))
  exact ⟨tup c1, ⟨ms, lst c2, Paired.mapP c3 fun t m q => tup q⟩, ⟨fs, lst c4, Paired.mapP c5 fun t m q => tup q⟩⟩
theorem foot_memL {es : List Trip} {e : Trip} (h : e ∈ es) : e.2.1 ∈ foot es ∧ e.2.2 ∈ foot es := foot_mem h
theorem footL_app {es : List Trip} {e : Trip} {u : Addr} (h : u ∈ foot (es ++ [e])) : u ∈ foot es ∨ u = e.2.1 ∨ u = e.2.2 := by
  rw [foot_app, foot_one] at h
  rcases List.mem_append.mp h with h | h
  · exact .inl h
  · rcases List.mem_cons.mp h with h | h
    · exact .inr (.inl h)
    · exact .inr (.inr (List.mem_singleton.mp h))
def spCuesL (K : PySem.W.Frag) : Sp := fun vs H Q _ => ∃ (d a nl bl : Addr) (ns : List Int) (im lo : Int) (xs : List Str) (ps : List (Str × Addr)), vs = [.ref d, .ref nl, .ref bl, .int im, .int lo] ∧ (1 ≤ im ∧ im ≤ 13) ∧ (0 ≤ lo ∧ lo ≤ 1) ∧ St K H d a ns ∧
  H nl = some (.lst (xs.map V.str)) ∧ xs.length = 13 ∧ (∀ x ∈ xs, x.length ≤ 8) ∧ BdAt H bl ps ∧ ps.length = 9 ∧ bl ≠ d ∧
  ∀ l es cs H', CuesAt H' l es cs → cs.length ≤ 13 → (∀ c ∈ cs, c.Sm) → Go d a H H' → H l = none → Q (.ref l) H'
abbrev nn_law_cues : List Str := ["_law_state", "_law_names_here", "_law_bounds_here", "_law_many", "_law_loose", "_law_found", "_law_at", "_law_moves_here"]
theorem sc_law_cues : FnScope nn_law_cues ["_law_state", "_law_names_here", "_law_bounds_here", "_law_many", "_law_loose"] (defScope s_law_cues) := ⟨rfl, rfl, rfl, by decide +kernel, rfl, by decide +kernel, by decide +kernel⟩
theorem ok_law_cues (T : Tx K mg) : OkD P w K mg base CX0 4 ("_law_cues", none) ["_law_state", "_law_names_here", "_law_bounds_here", "_law_many", "_law_loose"] (spCuesL K) := by
  obtain ⟨fd_law_followers, G_law_followers, b_law_followers, k_law_followers⟩ := ok_law_followers (P := P) (w := w) (base := base) T
  obtain ⟨fd_law_moves, G_law_moves, b_law_moves, k_law_moves⟩ := ok_law_moves (P := P) (w := w) (base := base) T
  refine OkD.mk T.f_law_cues sc_law_cues (fun _ _ _ _ _ _ us hl => match us, hl with | [_, _, _, _, _], _ => rfl) (fun vs H Q E h => ?_) (fun cdv A outer s H vs Q E hr h => ?_)
  · obtain ⟨d, a, nl, bl, ns, im, lo, xs, ps, rfl, _⟩ := h
    rfl
  · obtain ⟨d, a, nl, bl, ns, im, lo, xs, ps, rfl, him, hlo, S, hnl, hx13, hx8, B, hps, nbd, k⟩ := h
    have hr_law_followers : Room 3 _ := hr.mono (by decide)
    have hr_law_moves : Room 3 _ := hr.mono (by decide)
    refine ⟨_, (pss_cons (ps_set (i := 5) sc_law_cues.nd rfl (Or.inl rfl) (pe_lst pa_nil))
      (pss_cons (ps_for PassesOwn.never rfl (pi_range1 (by rfl) T.b_range (pa_cons (pv 3) pa_nil)) (pg_name (i := 6) sc_law_cues.nd rfl (Or.inl rfl))
        (pss_cons (ps_set (i := 7) sc_law_cues.nd rfl (Or.inl rfl) (pe_call G_law_moves hr_law_moves (by rfl) T.g_law_moves k_law_moves b_law_moves .nil pass0 (pa_cons (pv 0) (pa_cons (pv 2) (pa_cons (pv 4) pa_nil)))))
          (pss_one (ps_expr (pe_bm PySem.F.plainAttrs_list PySem.F.slot_list_append PySem.F.type_list_append mt_append (pv 5) (pa_cons (pe_tup (pa_cons (pe_ix ix_list (pv 1) (pv 6) (fun _ _ => rfl)) (pa_cons (pv 7) (pa_cons (pe_call G_law_followers hr_law_followers (by rfl) T.g_law_followers k_law_followers b_law_followers .nil pass0 (pa_cons (pv 0) (pa_cons (pv 1) (pa_cons (pv 6) (pa_cons (pv 3) (pa_cons (pv 4) pa_nil)))))) pa_nil)))) pa_nil))))))
      (pss_one (ps_ret (pv 5))))), ?_⟩
    have nld : nl ≠ d := by
      obtain ⟨⟨z, hz⟩, _⟩ := S
      exact ne_of hnl hz (by intro z; cases z)
    refine ⟨Nat.zero_le _, fun f fH => ?_⟩
    have s2 := same_new (o := .lst []) fH
    have ndf := S.new fH
    obtain ⟨cn, rfl⟩ := Int.eq_ofNat_of_zero_le (show 0 ≤ im by omega)
    refine ⟨_, rfl, (cn : Int), rfl, by omega, by omega, ?_⟩
    refine for_it (walk_range (lo := 0) (n := cn)) (fun i σ H5 => ∃ (v6 v7 : Option V) (es : List Trip) (cs : List Cue), σ = [some (.ref d), some (.ref nl), some (.ref bl), some (.int cn), some (.int lo), some (.ref f), v6, v7] ∧ Go d a H H5 ∧
      CuesAt H5 f es cs ∧ es.length = i ∧ (∀ c ∈ cs, c.Sm) ∧ ∀ u ∈ foot es, u ≠ f) ?_ ?_ ?_ ?_
    · exact ⟨none, none, [], [], rfl, S.refl.on s2, ⟨upd_same, .nil⟩, rfl, fun c hc => (by cases hc), fun u hu => (by cases hu)⟩
    · exact fun _ _ _ _ _ => trivial
    · rintro i x σ H5x H5 hi ⟨v6, v7, es, cs, rfl, g5, C, le, hsm, nf⟩ ⟨rfl, rfl⟩
      show gName 6 (V.int (0 + (i : Int))) _ _ _
      rw [Int.zero_add]
      have hi13 : i < xs.length := by omega
      refine ⟨_, rfl, _, rfl, _, rfl, d, a, bl, ns, lo, ps, rfl, hlo, S.go g5, B.go S g5 nbd, hps, nbd, fun m ms H6 M lm hm g6 fm => ?_⟩
      have g56 := g5.trans g6
      have enl6 := g56.1 _ _ hnl nld
      have ef6 := g6.1 _ _ C.1 ndf.symm
      refine ⟨_, rfl, .inl ⟨rfl, _, SqL.of ef6⟩, _, rfl, _, rfl, nl, _, _, .str xs[i], rfl, rfl, SqL.of enl6, atI_nat (j := i) ?_, _, rfl, _, rfl, _, rfl, _, rfl, _, rfl, _, rfl, d, a, nl, ns, i, cn, lo, xs, rfl, ⟨by omega, by omega, by omega⟩, hlo, S.go g56, enl6, hx13, hx8, nld, fun m2 fs H7 F lf hfs g7 fm2 => ⟨(by show 3 ≤ sizeLine; decide), fun t ht => ?_⟩⟩
      · rw [List.getElem?_map, List.getElem?_eq_getElem hi13] <;> rfl
      have s8 := same_new (o := .tup [.str xs[i], .ref m, .ref m2]) ht
      have g68 := (g6.trans g7).on s8
      have ef8 := g68.1 _ _ C.1 ndf.symm
      refine ⟨f, _, _, rfl, rfl, ef8, ?_, ?_⟩
      · rw [List.length_map, le]
        exact Nat.lt_of_lt_of_le (show i < 14 by omega) (by decide)
      have mf : m ≠ f := fun z => by
        rw [z, C.1] at fm
        cases fm
      have m2f : m2 ≠ f := fun z => by
        rw [z, ef6] at fm2
        cases fm2
      obtain ⟨z6, hz6⟩ := (S.go g56).1
      obtain ⟨ts, hm1, pm1⟩ := M
      have M8 : MvsAt (upd H7 t (.tup [.str xs[i], .ref m, .ref m2])) m ms := ⟨ts, s8 _ _ (g7.1 _ _ hm1 (ne_of hm1 hz6 (by intro z; cases z))), Paired.mapP pm1 fun u y q => s8 _ _ (g7.1 _ _ q (ne_of (show H6 u = some (.tup _) from q) hz6 (by intro z; cases z)))⟩
      have C8 : CueAt (upd H7 t (.tup [.str xs[i], .ref m, .ref m2])) (t, m, m2) ⟨xs[i], ms, fs⟩ := ⟨upd_same, M8, F.same s8⟩
      refine ⟨_, _, es ++ [(t, m, m2)], cs ++ [⟨xs[i], ms, fs⟩], rfl, (g5.trans g68).upd fH ndf, ⟨?_, ?_⟩, ?_, ?_, ?_⟩
      · rw [upd_same, List.map_append] <;> rfl
      · refine Paired.app (Paired.impM C.2 fun e c he hc q => ?_) (.cons (C8.upd ef8 mf m2f) .nil)
        obtain ⟨u1, u2⟩ := foot_memL he
        exact (q.go (S.go g5) g68).upd ef8 (nf _ u1) (nf _ u2)
      · rw [List.length_append, le] <;> rfl
      · intro c hc
        rcases List.mem_append.mp hc with hc | hc
        · exact hsm c hc
        · rw [List.mem_singleton.mp hc]
          exact ⟨hx8 _ (List.getElem_mem hi13), lm, lf, hm, hfs⟩
      · intro u hu
        rcases footL_app hu with hu | rfl | rfl
        · exact nf u hu
        · exact mf
        · exact m2f
    · rintro σ H5 ⟨v6, v7, es, cs, rfl, g5, C, le, hsm, nf⟩
      refine ⟨_, rfl, k f es cs H5 C ?_ hsm g5 fH⟩
      rw [← C.2.length, le]
      omega
end
end Fw

/-! ==== FwL5 ==== -/
set_option Elab.async false
set_option linter.all false
set_option maxRecDepth 100000
set_option maxHeartbeats 4000000
/-! walks of the law: the text it writes -/
namespace Fw
open PySem PySem.Spec PyProof.Rows L2 TL
section
variable {P : Program} {w : World} {K : PySem.W.Frag} {mg : Str → Option Value} {base : Heap}
def spTextL (K : PySem.W.Frag) : Sp := fun vs H Q _ => ∃ (l : Addr) (es : List Trip) (cs : List Cue), vs = [.ref l] ∧ CuesAt H l es cs ∧ (∀ c ∈ cs, c.Sm) ∧ cs.length ≤ 13 ∧ ∀ H', Same H H' → Q (.str (sheetText cs)) H'
abbrev nn_law_text : List Str := ["_law_cues_here", "_law_rows", "_law_name", "_law_moves_here", "_law_followers_here", "_law_machine", "_law_goal", "_law_wait_here", "_law_other"]
theorem sc_law_text : FnScope nn_law_text ["_law_cues_here"] (defScope s_law_text) := ⟨rfl, rfl, rfl, by decide +kernel, rfl, by decide +kernel, by decide +kernel⟩
theorem ok_law_text (T : Tx K mg) : OkD P w K mg base CX0 1 ("_law_text", none) ["_law_cues_here"] (spTextL K) := by
  refine OkD.mk T.f_law_text sc_law_text (fun _ _ _ _ _ _ us hl => match us, hl with | [_], _ => rfl) (fun vs H Q E h => ?_) (fun cdv A outer s H vs Q E hr h => ?_)
  · obtain ⟨l, es, cs, rfl, _⟩ := h
    rfl
  · obtain ⟨l, es, cs, rfl, C, sm, l13, k⟩ := h
    refine ⟨_, (pss_cons (ps_set (i := 1) sc_law_text.nd rfl (Or.inl rfl) (pe_lst pa_nil))
      (pss_cons (ps_for PassesOwn.never rfl (pi_list (pv 0)) (pg_tup rfl (pgs_cons (pg_name (i := 2) sc_law_text.nd rfl (Or.inl rfl)) (pgs_cons (pg_name (i := 3) sc_law_text.nd rfl (Or.inl rfl)) (pgs_cons (pg_name (i := 4) sc_law_text.nd rfl (Or.inl rfl)) pgs_nil))))
        (pss_cons (ps_expr (pe_bm PySem.F.plainAttrs_list PySem.F.slot_list_append PySem.F.type_list_append mt_append (pv 1) (pa_cons (pe_op op_add_str pe_str (pv 2)) pa_nil)))
          (pss_cons (ps_for PassesOwn.never rfl (pi_list (pv 3)) (pg_tup rfl (pgs_cons (pg_name (i := 5) sc_law_text.nd rfl (Or.inl rfl)) (pgs_cons (pg_name (i := 6) sc_law_text.nd rfl (Or.inl rfl)) (pgs_cons (pg_name (i := 7) sc_law_text.nd rfl (Or.inl rfl)) pgs_nil))))
            (pss_one (ps_expr (pe_bm PySem.F.plainAttrs_list PySem.F.slot_list_append PySem.F.type_list_append mt_append (pv 1) (pa_cons (pe_op op_add_str (pe_op op_add_str (pe_op op_add_str (pe_op op_add_str (pe_op op_add_str pe_str (pv 5)) pe_str) (pe_callTy call_str_int (by rfl) T.b_str bv_str (pa_cons (pv 6) pa_nil))) pe_str) (pe_callTy call_str_int (by rfl) T.b_str bv_str (pa_cons (pv 7) pa_nil))) pa_nil)))))
          (pss_one (ps_set (i := 1) sc_law_text.nd rfl (Or.inl rfl) (pe_op op_cat (pv 1) (pe_lc (g := gTup K 2 (gCons (gName 8) (gCons (gName 7) gNil))) (own := [("_law_other", 8), ("_law_wait_here", 7)]) rfl sc_law_text.nd (pi_list (pv 4)) (blkOk_by (own := [("_law_other", 8), ("_law_wait_here", 7)]) (N := nn_law_text) (sc := defScope s_law_text) (by decide +kernel)) (fun _ _ _ _ _ => (pg_tup rfl (pgs_cons (pg_name (i := 8) sc_law_text.nd rfl (Or.inl rfl)) (pgs_cons (pg_name (i := 7) sc_law_text.nd rfl (Or.inl rfl)) pgs_nil)))) (fun _ _ _ _ _ => pts_nil) (fun _ _ _ _ _ => (pe_op op_add_str (pe_op op_add_str (pe_op op_add_str pe_str (pv 8)) pe_str) (pe_callTy call_str_int (by rfl) T.b_str bv_str (pa_cons (pv 7) pa_nil)))))))))))
      (pss_one (ps_ret (pe_join pe_str (pv 1)))))), ?_⟩
    refine ⟨Nat.zero_le _, fun r0 hr0 => ?_⟩
    have s1 := same_new (o := .lst []) hr0
    have len := C.2.length
    refine ⟨_, rfl, l, rfl, ⟨_, SqL.of (s1 _ _ C.1)⟩, ?_⟩
    refine for_it (walk_list (xs := es.map fun e => V.ref e.1)) (fun i σ H2 => ∃ (v2 v3 v4 v5 v6 v7 : Option V) (r : Addr), σ = [some (.ref l), some (.ref r), v2, v3, v4, v5, v6, v7, none] ∧ Same H H2 ∧ H r = none ∧ H2 r = some (.lst ((allRows (cs.take i)).map V.str))) ?_ ?_ ?_ ?_
    · exact ⟨none, none, none, none, none, none, r0, rfl, s1, hr0, upd_same⟩
    · rintro i σ H2 hi ⟨v2, v3, v4, v5, v6, v7, r, rfl, s2, rH, er⟩
      exact SqL.of (s2 _ _ C.1)
    · rintro i x σ H0x H2 hi ⟨v2, v3, v4, v5, v6, v7, r, rfl, s2, rH, er⟩ ⟨rfl, hx⟩
      rw [List.getElem?_map] at hx
      obtain ⟨e, he, rfl⟩ := Option.map_eq_some_iff.mp hx
      obtain ⟨c, hc, ce0⟩ := Paired.get C.2 he
      have ce2 := ce0.same s2
      have cm := List.mem_of_getElem? hc
      have csm := sm c cm
      have ml := csm.ml
      have fl := csm.fl
      have off : ∀ {u : Addr} {o : HO}, H u = some o → u ≠ r := fun {u o} h => ne_of_none h rH
      refine ⟨e.1, _, rfl, SqT.of ce2.1, rfl, _, _, rfl, _, _, rfl, _, _, rfl, rfl, ?_⟩
      have room : (allRows (cs.take i)).length ≤ 156 := Nat.le_trans (allRows_take sm i) (by omega)
      have big : 1000 < sizeLine := by decide
      refine ⟨_, rfl, .inl ⟨rfl, _, SqL.of er⟩, _, rfl, _, _, rfl, rfl, ?_, r, _, _, rfl, rfl, er, by rw [List.length_map]; omega, ?_⟩
      · rw [cueW_len]
        have := csm.n
        omega
      obtain ⟨_, ⟨ms, hm, pm⟩, ⟨fs, hf, pf⟩⟩ := ce0
      have offs : ∀ {H9 H8 : Hp} {o : HO}, Same H H8 → Same H (upd H8 r o) := fun {H9 H8 o} s b x eb => by
        rw [upd_ne (ne_of_none eb rH)]
        exact s b x eb
      have s3 : Same H (upd H2 r (.lst ((allRows (cs.take i)).map V.str ++ [V.str (cueRow c)]))) := offs (H9 := H) s2
      refine ⟨_, rfl, e.2.1, rfl, ⟨_, SqL.of (s3 _ _ hm)⟩, ?_⟩
      refine for_it (walk_list (xs := ms.map V.ref)) (fun j σ H4 => ∃ (v5 v6 v7 : Option V), σ = [some (.ref l), some (.ref r), some (.str c.name), some (.ref e.2.1), some (.ref e.2.2), v5, v6, v7, none] ∧ Same H H4 ∧
          H4 r = some (.lst ((allRows (cs.take i) ++ (cueRow c :: (c.moves.take j).map moveRow)).map V.str))) ?_ ?_ ?_ ?_
      · refine ⟨v5, v6, v7, rfl, s3, ?_⟩
        rw [upd_same, List.take_zero, List.map_nil, List.map_append] <;> rfl
      · rintro j σ H4 hj ⟨u5, u6, u7, rfl, s4, er4⟩
        exact SqL.of (s4 _ _ hm)
      · rintro j x σ H4x H4 hj ⟨u5, u6, u7, rfl, s4, er4⟩ ⟨rfl, hx⟩
        rw [List.getElem?_map] at hx
        obtain ⟨u, hu, rfl⟩ := Option.map_eq_some_iff.mp hx
        obtain ⟨m, hmm, hmu⟩ := Paired.get pm hu
        have z := csm.m m (List.mem_of_getElem? hmm)
        have zl := moveRow_sum z
        have hj7 : j < 7 := by
          rw [List.length_map, pm.length] at hj
          omega
        refine ⟨u, _, rfl, SqT.of (s4 _ _ hmu), rfl, _, _, rfl, _, _, rfl, _, _, rfl, rfl, ?_⟩
        refine ⟨_, rfl, .inl ⟨rfl, _, SqL.of er4⟩, ?_⟩
        refine ⟨_, rfl, _, _, rfl, rfl, ?_, _, _, rfl, rfl, ?_, ⟨_, rfl, _, rfl, log_ok z.2.1.1 z.2.1.2, _, _, rfl, rfl, ?_, _, _, rfl, rfl, ?_, ⟨_, rfl, _, rfl, log_ok (by omega) (by omega), _, _, rfl, rfl, ?_, ?_⟩⟩⟩
        · omega
        · rw [PySem.Str.length_append]
          omega
        · rw [PySem.Str.length_append, PySem.Str.length_append]
          omega
        · rw [PySem.Str.length_append, PySem.Str.length_append, PySem.Str.length_append]
          omega
        · rw [PySem.Str.length_append, PySem.Str.length_append, PySem.Str.length_append, PySem.Str.length_append]
          omega
        · refine ⟨r, _, _, rfl, rfl, er4, ?_, _, _, _, rfl, offs (H9 := H) s4, ?_⟩
          · rw [List.length_map, List.length_append, List.length_cons, List.length_map, List.length_take]
            omega
          · rw [upd_same, take_snoc hmm]
            simp [List.map_append]
            rfl
      · rintro σ H4 ⟨u5, u6, u7, rfl, s4, er4⟩
        rw [List.length_map, pm.length, List.take_length] at er4
        -- rows = rows + [...]
        refine ⟨_, rfl, _, rfl, e.2.2, rfl, ⟨_, SqL.of (s4 _ _ hf)⟩, fun D hD => ?_⟩
        refine lc_f (walk_list (xs := fs.map V.ref)) (fun j => c.fols[j]?.map fun m => V.str (thenRow m)) (by rw [List.length_map, pf.length]; omega) hD (fun H5 s5 => s5.seq (SqL.of (s4 _ _ hf))) (fun j x H5x H5 N N0 hj s5 hy kN _ => ?_) (fun H5 s5 eD => ?_)
        · obtain ⟨rfl, hx⟩ := hy
          rw [List.getElem?_map] at hx
          obtain ⟨u, hu, rfl⟩ := Option.map_eq_some_iff.mp hx
          obtain ⟨m, hmm, hmu⟩ := Paired.get pf hu
          have z := csm.f m (List.mem_of_getElem? hmm)
          have zl := thenRow_sum z
          refine ⟨u, _, rfl, SqT.of (s5 _ _ (s4 _ _ hmu)), rfl, _, _, rfl, _, _, rfl, rfl, rfl, yes_of ?_⟩
          refine ⟨_, rfl, _, _, rfl, rfl, ?_, _, _, rfl, rfl, ?_, ⟨_, rfl, _, rfl, log_ok (by omega) (by omega), _, _, rfl, rfl, ?_, kN _ _ ?_ (Same.refl _)⟩⟩
          · omega
          · rw [PySem.Str.length_append]
            omega
          · rw [PySem.Str.length_append, PySem.Str.length_append]
            omega
          · rw [hmm]
            rfl
        · have eD' : H5 D = some (.lst ((c.fols.map thenRow).map V.str)) := by
            rw [eD, List.length_map, pf.length, fm_all]
          refine ⟨r, D, _, _, rfl, rfl, s5 _ _ er4, eD', ?_, fun q hq => ?_⟩
          · rw [List.length_map, List.length_append, List.length_cons, List.length_map, List.length_map, List.length_map]
            omega
          · have s45 := s4.trans s5
            refine ⟨_, _, _, _, _, _, q, rfl, s45.trans (same_new hq), s45.free hq, ?_⟩
            rw [upd_same, take_snoc hc, allRows_snoc]
            unfold cueRows
            simp [List.map_append]
    · rintro σ H2 ⟨v2, v3, v4, v5, v6, v7, r, rfl, s2, rH, er⟩
      rw [List.length_map, len, List.take_length] at er
      refine ⟨⟨_, rfl⟩, _, rfl, _, r, _, rfl, rfl, .inl (SqL.of er), ?_, ?_⟩
      · exact join_room (by decide +kernel) (allRows_lens sm).1 (by omega)
      · exact k H2 s2
end
end Fw

/-! ==== FwL6 ==== -/
set_option Elab.async false
set_option linter.all false
set_option maxRecDepth 100000
set_option maxHeartbeats 4000000
/-! walks of the law: the word for a refusal -/
namespace Fw
open PySem PySem.Spec PyProof.Rows L2 TL
section
variable {P : Program} {w : World} {K : PySem.W.Frag} {mg : Str → Option Value} {base : Heap}
def spWord (K : PySem.W.Frag) : Sp := fun vs H Q _ => ∃ (a d : Addr) (k : Int), vs = [.ref a] ∧ H a = some (ExK (.ref (aBR K)) (some d) a) ∧ H d = some (.xd [("row", .int k)]) ∧ (-1000000000 ≤ k ∧ k ≤ 1000000000) ∧ ∀ H', Same H H' → Q (.str (Str.ofString "row " ++ numS k)) H'
def fitAt (H : Hp) (j : Nat) (t : Addr) : Prop := ∃ n : Str, H t = some (.tup [.str n, .bl (decide (j = 0))]) ∧ (j = 0 → n = Str.ofString "row")
theorem fitAt.same {H H' : Hp} {j : Nat} {t : Addr} (s : Same H H') (h : fitAt H j t) : fitAt H' j t := by
  obtain ⟨n, h1, h2⟩ := h
  exact ⟨n, s _ _ h1, h2⟩
def rowF (j : Nat) : Option V := if j = 0 then some (.str (Str.ofString "row")) else none
theorem rowF_all : (List.range 6).filterMap rowF = [.str (Str.ofString "row")] := by decide +kernel
theorem rowW_len : (Str.ofString "row ").length = 4 := by decide +kernel
abbrev nn_law_word : List Str := ["_law_e", "_law_some", "_law_others", "_law_found", "_law_word_here", "_law_fits"]
theorem sc_law_word : FnScope nn_law_word ["_law_e"] (defScope s_law_word) := ⟨rfl, rfl, rfl, by decide +kernel, rfl, by decide +kernel, by decide +kernel⟩
theorem ok_law_word (T : Tx K mg) : OkD P w K mg base CX0 1 ("_law_word", none) ["_law_e"] (spWord K) := by
  refine OkD.mk T.f_law_word sc_law_word (fun _ _ _ _ _ _ us hl => match us, hl with | [_], _ => rfl) (fun vs H Q E h => ?_) (fun cdv A outer s H vs Q E hr h => ?_)
  · obtain ⟨a, d, k, rfl, _⟩ := h
    rfl
  · obtain ⟨a, d, z, rfl, ha, hd, hz, k⟩ := h
    refine ⟨_, (pss_cons (ps_set (i := 1) sc_law_word.nd rfl (Or.inl rfl) (pe_lst (pa_cons (pe_tup (pa_cons pe_str (pa_cons (pe_callB (call_isK T.br) (by rfl) T.b_isinstance bv_isinstance (pa_cons (pv 0) (pa_cons (pe_glob (v := .ref (He.ga K "BadRow")) (by rfl) T.g_BadRow rfl) pa_nil))) pa_nil))) (pa_cons (pe_tup (pa_cons pe_str (pa_cons (pe_callB (call_isK T.br) (by rfl) T.b_isinstance bv_isinstance (pa_cons (pv 0) (pa_cons (pe_glob (v := .ref (He.ga K "BadStage")) (by rfl) T.g_BadStage rfl) pa_nil))) pa_nil))) pa_nil))))
      (pss_cons (ps_set (i := 1) sc_law_word.nd rfl (Or.inl rfl) (pe_op op_cat (pv 1) (pe_lst (pa_cons (pe_tup (pa_cons pe_str (pa_cons (pe_callB (call_isK T.br) (by rfl) T.b_isinstance bv_isinstance (pa_cons (pv 0) (pa_cons (pe_glob (v := .ref (He.ga K "BadNumber")) (by rfl) T.g_BadNumber rfl) pa_nil))) pa_nil))) (pa_cons (pe_tup (pa_cons pe_str (pa_cons (pe_callB (call_isK T.br) (by rfl) T.b_isinstance bv_isinstance (pa_cons (pv 0) (pa_cons (pe_glob (v := .ref (He.ga K "BadName")) (by rfl) T.g_BadName rfl) pa_nil))) pa_nil))) pa_nil)))))
      (pss_cons (ps_set (i := 1) sc_law_word.nd rfl (Or.inl rfl) (pe_op op_cat (pv 1) (pe_lst (pa_cons (pe_tup (pa_cons pe_str (pa_cons (pe_callB (call_isK T.br) (by rfl) T.b_isinstance bv_isinstance (pa_cons (pv 0) (pa_cons (pe_glob (v := .ref (He.ga K "BadSheet")) (by rfl) T.g_BadSheet rfl) pa_nil))) pa_nil))) (pa_cons (pe_tup (pa_cons pe_str (pa_cons (pe_callB (call_isK T.br) (by rfl) T.b_isinstance bv_isinstance (pa_cons (pv 0) (pa_cons (pe_glob (v := .ref (He.ga K "NoCue")) (by rfl) T.g_NoCue rfl) pa_nil))) pa_nil))) pa_nil)))))
      (pss_cons (ps_set (i := 2) sc_law_word.nd rfl (Or.inl rfl) (pe_callB (call_isKT T.br) (by rfl) T.b_isinstance bv_isinstance (pa_cons (pv 0) (pa_cons (pe_tup (pa_cons (pe_glob (v := .ref (He.ga K "Busy")) (by rfl) T.g_Busy rfl) (pa_cons (pe_glob (v := .ref (He.ga K "Moving")) (by rfl) T.g_Moving rfl) (pa_cons (pe_glob (v := .ref (He.ga K "NotStopped")) (by rfl) T.g_NotStopped rfl) (pa_cons (pe_glob (v := .ref (He.ga K "Stopped")) (by rfl) T.g_Stopped rfl) (pa_cons (pe_glob (v := .ref (He.ga K "TooLong")) (by rfl) T.g_TooLong rfl) (pa_cons (pe_glob (v := .ref (He.ga K "TooNear")) (by rfl) T.g_TooNear rfl) pa_nil))))))) pa_nil))))
      (pss_cons (ps_setLc (i := 3) (g := gTup K 2 (gCons (gName 4) (gCons (gName 5) gNil))) (own := [("_law_word_here", 4), ("_law_fits", 5)]) rfl sc_law_word.nd rfl rfl (sw_true rfl rfl rfl (by decide +kernel)) (pi_list (pv 1)) (blkOk_by (own := [("_law_word_here", 4), ("_law_fits", 5)]) (N := nn_law_word) (sc := defScope s_law_word) (by decide +kernel)) (fun _ _ _ _ _ => (pg_tup rfl (pgs_cons (pg_name (i := 4) sc_law_word.nd rfl (Or.inl rfl)) (pgs_cons (pg_name (i := 5) sc_law_word.nd rfl (Or.inl rfl)) pgs_nil)))) (fun _ _ _ _ _ => pts_one (pt_val (pv 5))) (fun _ _ _ _ _ => (pv 4)))
      (pss_cons (ps_if (PW.pt (pw_or (pt_val (pv 2)) (pw_or (pt_cmpR op_ne (pe_callB call_len_seq (by rfl) T.b_len bv_len (pa_cons (pv 3) pa_nil)) pe_int (by first | exact nomark _ | rfl)) (pw_or1 (pt_not (pt_val (pe_callB (call_isK T.br) (by rfl) T.b_isinstance bv_isinstance (pa_cons (pv 0) (pa_cons (pe_bltn (v := .ty "ValueError") (by rfl) T.b_ValueError bv_ValueError rfl) pa_nil)))))))))
        (pss_one (ps_ret pe_str))
        pss_nil)
      (pss_cons (ps_if (PW.pt (pw_and (pt_cmpR op_eq (pe_ix ix_list (pv 3) pe_int (fun _ _ => rfl)) pe_str (by first | exact nomark _ | rfl)) (pw_and1 (pt_not (pt_val (pe_callB call_isi (by rfl) T.b_isinstance bv_isinstance (pa_cons (pe_row T.br (pv 0)) (pa_cons (pe_bltn (v := .ty "bool") (by rfl) T.b_bool bv_bool rfl) pa_nil))))))))
        (pss_one (ps_ret (pe_op op_add_str pe_str (pe_callTy call_str_int (by rfl) T.b_str bv_str (pa_cons (pe_row T.br (pv 0)) pa_nil)))))
        pss_nil)
      (pss_one (ps_ret (pe_ix ix_list (pv 3) pe_int (fun _ _ => rfl))))))))))), ?_⟩
    have two : 2 ≤ sizeLine := by decide
    have B := T.br
    have bad : ∀ x ∈ (["BadStage", "BadNumber", "BadName", "BadSheet", "NoCue"] : List Str), PySem.W.kitOne K (.ref (aBR K)) (.ref (He.ga K x)) = some false := B.isnt
    -- [('row', ..), ('stage', ..)]
    refine ⟨_, rfl, a, d, _, _, _, true, rfl, ha, hd, .own _, B.isRow, two, fun t0 ht0 => ?_⟩
    have u0 := same_new (o := .tup [.str (Str.ofString "row"), .bl true]) ht0
    refine ⟨_, rfl, a, d, _, _, _, false, rfl, u0 _ _ ha, u0 _ _ hd, .own _, bad _ (by simp), two, fun t1 ht1 => ?_⟩
    have u1 := same_new (o := .tup [.str (Str.ofString "stage"), .bl false]) ht1
    refine ⟨two, fun q0 hq0 => ?_⟩
    have u2 := same_new (o := .lst [.ref t0, .ref t1]) hq0
    have s2 := (u0.trans u1).trans u2
    -- + [('number', ..), ('name', ..)]
    refine ⟨_, rfl, ⟨_, rfl, a, d, _, _, _, false, rfl, s2 _ _ ha, s2 _ _ hd, .own _, bad _ (by simp), two, fun t2 ht2 => ?_⟩⟩
    have u3 := same_new (o := .tup [.str (Str.ofString "number"), .bl false]) ht2
    have s3 := s2.trans u3
    refine ⟨_, rfl, a, d, _, _, _, false, rfl, s3 _ _ ha, s3 _ _ hd, .own _, bad _ (by simp), two, fun t3 ht3 => ?_⟩
    have u4 := same_new (o := .tup [.str (Str.ofString "name"), .bl false]) ht3
    have s4 := s3.trans u4
    refine ⟨two, fun q1 hq1 => ?_⟩
    have u5 := same_new (o := .lst [.ref t2, .ref t3]) hq1
    have eq0 := u5 _ _ (u4 _ _ (u3 _ _ (upd_same (a := q0) (o := .lst [.ref t0, .ref t1]))))
    refine ⟨q0, q1, _, _, rfl, rfl, eq0, upd_same, (by show 4 ≤ sizeLine; decide), fun q2 hq2 => ?_⟩
    have u6 := same_new (o := .lst ([.ref t0, .ref t1] ++ [.ref t2, .ref t3])) hq2
    have s6 := (s4.trans u5).trans u6
    -- + [('sheet', ..), ('cue', ..)]
    refine ⟨_, rfl, ⟨_, rfl, a, d, _, _, _, false, rfl, s6 _ _ ha, s6 _ _ hd, .own _, bad _ (by simp), two, fun t4 ht4 => ?_⟩⟩
    have u7 := same_new (o := .tup [.str (Str.ofString "sheet"), .bl false]) ht4
    have s7 := s6.trans u7
    refine ⟨_, rfl, a, d, _, _, _, false, rfl, s7 _ _ ha, s7 _ _ hd, .own _, bad _ (by simp), two, fun t5 ht5 => ?_⟩
    have u8 := same_new (o := .tup [.str (Str.ofString "cue"), .bl false]) ht5
    have s8 := s7.trans u8
    refine ⟨two, fun q3 hq3 => ?_⟩
    have u9 := same_new (o := .lst [.ref t4, .ref t5]) hq3
    have eq2 := u9 _ _ (u8 _ _ (u7 _ _ (upd_same (a := q2) (o := .lst ([.ref t0, .ref t1] ++ [.ref t2, .ref t3])))))
    refine ⟨q2, q3, _, _, rfl, rfl, eq2, upd_same, (by show 6 ≤ sizeLine; decide), fun q4 hq4 => ?_⟩
    have u10 := same_new (o := .lst (([.ref t0, .ref t1] ++ [.ref t2, .ref t3]) ++ [.ref t4, .ref t5])) hq4
    have s10 := (s8.trans u9).trans u10
    -- isinstance(_law_e, (..))
    refine ⟨_, rfl, (by show 6 ≤ sizeLine; decide), fun tp htp => ?_⟩
    have u11 := same_new (o := .tup [.ref (He.ga K "Busy"), .ref (He.ga K "Moving"), .ref (He.ga K "NotStopped"), .ref (He.ga K "Stopped"), .ref (He.ga K "TooLong"), .ref (He.ga K "TooNear")]) htp
    have s11 := s10.trans u11
    refine ⟨a, d, tp, _, _, _, false, rfl, s11 _ _ ha, s11 _ _ hd, upd_same, .cons (.own _) (.cons (.own _) (.cons (.own _) (.cons (.own _) (.cons (.own _) (.cons (.own _) .nil))))), B.isnts, ?_⟩
    have eq4 := u11 _ _ (upd_same (a := q4) (o := .lst (([.ref t0, .ref t1] ++ [.ref t2, .ref t3]) ++ [.ref t4, .ref t5])))
    have v2 := (u9.trans u10).trans u11
    have v5 := ((((u5.trans u6).trans u7).trans u8).trans v2)
    have v1 := ((u2.trans u3).trans u4).trans v5
    have f0 := v1 _ _ (u1 _ _ (upd_same (a := t0) (o := .tup [.str (Str.ofString "row"), .bl true])))
    have f1 := v1 _ _ (upd_same (a := t1) (o := .tup [.str (Str.ofString "stage"), .bl false]))
    have f2 := v5 _ _ (u4 _ _ (upd_same (a := t2) (o := .tup [.str (Str.ofString "number"), .bl false])))
    have f3 := v5 _ _ (upd_same (a := t3) (o := .tup [.str (Str.ofString "name"), .bl false]))
    have f4 := v2 _ _ (u8 _ _ (upd_same (a := t4) (o := .tup [.str (Str.ofString "sheet"), .bl false])))
    have f5 := v2 _ _ (upd_same (a := t5) (o := .tup [.str (Str.ofString "cue"), .bl false]))
    -- [word for word, fits in some if fits]
    refine ⟨_, rfl, q4, rfl, ⟨_, SqL.of eq4⟩, fun D hD => ?_⟩
    refine lc_f (walk_list (xs := ([.ref t0, .ref t1] ++ [.ref t2, .ref t3]) ++ [.ref t4, .ref t5])) rowF (by show 6 < sizeLine; decide) hD (fun H2 s => s.seq (SqL.of eq4)) (fun j x H0x H2 N N0 hj s hy kN kN0 => ?_) (fun H2 s eD => ?_)
    · obtain ⟨rfl, hx⟩ := hy
      rcases j with _ | _ | _ | _ | _ | _ | j
      · obtain rfl : V.ref t0 = x := Option.some.inj hx
        exact ⟨t0, _, rfl, SqT.of (s _ _ f0), rfl, _, _, rfl, _, _, rfl, rfl, rfl, ⟨_, rfl, true, rfl, iteT ⟨_, rfl, kN _ _ rfl (Same.refl _)⟩⟩⟩
      · obtain rfl : V.ref t1 = x := Option.some.inj hx
        exact ⟨t1, _, rfl, SqT.of (s _ _ f1), rfl, _, _, rfl, _, _, rfl, rfl, rfl, ⟨_, rfl, false, rfl, iteF (kN0 _ rfl (Same.refl _))⟩⟩
      · obtain rfl : V.ref t2 = x := Option.some.inj hx
        exact ⟨t2, _, rfl, SqT.of (s _ _ f2), rfl, _, _, rfl, _, _, rfl, rfl, rfl, ⟨_, rfl, false, rfl, iteF (kN0 _ rfl (Same.refl _))⟩⟩
      · obtain rfl : V.ref t3 = x := Option.some.inj hx
        exact ⟨t3, _, rfl, SqT.of (s _ _ f3), rfl, _, _, rfl, _, _, rfl, rfl, rfl, ⟨_, rfl, false, rfl, iteF (kN0 _ rfl (Same.refl _))⟩⟩
      · obtain rfl : V.ref t4 = x := Option.some.inj hx
        exact ⟨t4, _, rfl, SqT.of (s _ _ f4), rfl, _, _, rfl, _, _, rfl, rfl, rfl, ⟨_, rfl, false, rfl, iteF (kN0 _ rfl (Same.refl _))⟩⟩
      · obtain rfl : V.ref t5 = x := Option.some.inj hx
        exact ⟨t5, _, rfl, SqT.of (s _ _ f5), rfl, _, _, rfl, _, _, rfl, rfl, rfl, ⟨_, rfl, false, rfl, iteF (kN0 _ rfl (Same.refl _))⟩⟩
      · exact absurd hj (by show ¬ (j + 6 < 6); omega)
    · have eD' : H2 D = some (.lst [.str (Str.ofString "row")]) := eD.trans (congrArg (fun z => some (HO.lst z)) rowF_all)
      have s12 := s11.trans s
      refine ⟨_, rfl, false, rfl, iteF ?_⟩
      refine ⟨_, rfl, D, _, rfl, .inl (SqL.of eD'), rfl, _, rfl, iteF ?_⟩
      refine ⟨_, rfl, a, d, _, _, _, true, rfl, s12 _ _ ha, s12 _ _ hd, .ty _, B.isVE, true, rfl, iteF ?_⟩
      -- 'row', not a bool
      refine ⟨_, rfl, D, _, 0, _, rfl, rfl, SqL.of eD', atI_nat (j := 0) rfl, rfl, _, rfl, iteT ?_⟩
      refine ⟨_, rfl, a, d, _, rfl, s12 _ _ ha, s12 _ _ hd, _, _, _, _, false, rfl, .ty _, .base (.int z), kit_ty (by decide +kernel), false, rfl, iteT ?_⟩
      refine ⟨_, rfl, a, d, _, rfl, s12 _ _ ha, s12 _ _ hd, _, rfl, log_ok hz.1 hz.2, _, _, rfl, rfl, ?_, k H2 s12⟩
      rw [rowW_len]
      have h11 : (Str.ofString (toString z)).length ≤ 11 := numS_len hz.1 hz.2
      have big : 1000 < sizeLine := by decide
      omega
end
end Fw

/-! ==== FwL7 ==== -/
set_option Elab.async false
set_option linter.all false
set_option maxRecDepth 100000
set_option maxHeartbeats 4000000
/-! walks of the law: bent texts -/
namespace Fw
open PySem PySem.Spec PyProof.Rows L2 TL
section
variable {P : Program} {w : World} {K : PySem.W.Frag} {mg : Str → Option Value} {base : Heap}
def spOdd (K : PySem.W.Frag) : Sp := fun vs H Q _ => ∃ (d a : Addr) (ns : List Int), vs = [.ref d] ∧ St K H d a ns ∧ ∀ (x : Str) H', x.length ≤ 16 → Go d a H H' → Q (.str x) H'
abbrev nn_law_odd_word : List Str := ["_law_state", "_law_some"]
theorem sc_law_odd_word : FnScope nn_law_odd_word ["_law_state"] (defScope s_law_odd_word) := ⟨rfl, rfl, rfl, by decide +kernel, rfl, by decide +kernel, by decide +kernel⟩
theorem ok_law_odd_word (T : Tx K mg) : OkD P w K mg base CX0 2 ("_law_odd_word", none) ["_law_state"] (spOdd K) := by
  obtain ⟨fd_law_next, G_law_next, b_law_next, k_law_next⟩ := ok_law_next (P := P) (w := w) (base := base) T
  refine OkD.mk T.f_law_odd_word sc_law_odd_word (fun _ _ _ _ _ _ us hl => match us, hl with | [_], _ => rfl) (fun vs H Q E h => ?_) (fun cdv A outer s H vs Q E hr h => ?_)
  · obtain ⟨d, a, ns, rfl, _⟩ := h
    rfl
  · obtain ⟨d, a, ns, rfl, S, k⟩ := h
    have hr_law_next : Room 1 _ := hr.mono (by decide)
    refine ⟨_, (pss_cons (ps_set (i := 1) sc_law_odd_word.nd rfl (Or.inl rfl) (pe_lst (pa_shorts (n := 16) (by decide +kernel) rfl)))
      (pss_cons (ps_set (i := 1) sc_law_odd_word.nd rfl (Or.inl rfl) (pe_op op_cat (pv 1) (pe_lst (pa_shorts (n := 7) (by decide +kernel) rfl))))
      (pss_cons (ps_set (i := 1) sc_law_odd_word.nd rfl (Or.inl rfl) (pe_op op_cat (pv 1) (pe_lst (pa_shorts (n := 8) (by decide +kernel) rfl))))
      (pss_cons (ps_set (i := 1) sc_law_odd_word.nd rfl (Or.inl rfl) (pe_op op_cat (pv 1) (pe_lst (pa_shorts (n := 6) (by decide +kernel) rfl))))
      (pss_cons (ps_set (i := 1) sc_law_odd_word.nd rfl (Or.inl rfl) (pe_op op_cat (pv 1) (pe_lst (pa_shorts (n := 8) (by decide +kernel) rfl))))
      (pss_one (ps_ret (pe_ix ix_list (pv 1) (pe_op op_mod (pe_call G_law_next hr_law_next (by rfl) T.g_law_next k_law_next b_law_next .nil pass0 (pa_cons (pv 0) pa_nil)) (pe_callB call_len_seq (by rfl) T.b_len bv_len (pa_cons (pv 1) pa_nil))) (fun _ _ => rfl))))))))), ?_⟩
    have big : 100 < sizeLine := by decide
    intro x1 l1 h1
    refine ⟨by rw [List.length_map]; omega, fun q1 f1 => ?_⟩
    have s1 := same_new (o := .lst (x1.map V.str)) f1
    refine ⟨_, rfl, ?_⟩
    intro x2 l2 h2
    refine ⟨by rw [List.length_map]; omega, fun q2 f2 => ?_⟩
    have s2 := same_new (o := .lst (x2.map V.str)) f2
    refine ⟨q1, q2, _, _, rfl, rfl, s2 _ _ upd_same, upd_same, by rw [List.length_map, List.length_map]; omega, fun q3 f3 => ?_⟩
    rw [← List.map_append]
    have s3 := same_new (o := .lst ((x1 ++ x2).map V.str)) f3
    refine ⟨_, rfl, ?_⟩
    intro x3 l3 h3
    refine ⟨by rw [List.length_map]; omega, fun q4 f4 => ?_⟩
    have s4 := same_new (o := .lst (x3.map V.str)) f4
    refine ⟨q3, q4, _, _, rfl, rfl, s4 _ _ upd_same, upd_same, by rw [List.length_map, List.length_map, List.length_append]; omega, fun q5 f5 => ?_⟩
    rw [← List.map_append]
    have s5 := same_new (o := .lst (((x1 ++ x2) ++ x3).map V.str)) f5
    refine ⟨_, rfl, ?_⟩
    intro x4 l4 h4
    refine ⟨by rw [List.length_map]; omega, fun q6 f6 => ?_⟩
    have s6 := same_new (o := .lst (x4.map V.str)) f6
    refine ⟨q5, q6, _, _, rfl, rfl, s6 _ _ upd_same, upd_same, by rw [List.length_map, List.length_map, List.length_append, List.length_append]; omega, fun q7 f7 => ?_⟩
    rw [← List.map_append]
    have s7 := same_new (o := .lst ((((x1 ++ x2) ++ x3) ++ x4).map V.str)) f7
    refine ⟨_, rfl, ?_⟩
    intro x5 l5 h5
    refine ⟨by rw [List.length_map]; omega, fun q8 f8 => ?_⟩
    have s8 := same_new (o := .lst (x5.map V.str)) f8
    refine ⟨q7, q8, _, _, rfl, rfl, s8 _ _ upd_same, upd_same, by rw [List.length_map, List.length_map, List.length_append, List.length_append, List.length_append]; omega, fun q9 f9 => ?_⟩
    rw [← List.map_append]
    have s9 := same_new (o := .lst (((((x1 ++ x2) ++ x3) ++ x4) ++ x5).map V.str)) f9
    have s19 := (((((((s1.trans s2).trans s3).trans s4).trans s5).trans s6).trans s7).trans s8).trans s9
    have nq : q9 ≠ d := fun z => by
      obtain ⟨⟨u, hu⟩, _⟩ := S
      have y := s8 _ _ (s7 _ _ (s6 _ _ (s5 _ _ (s4 _ _ (s3 _ _ (s2 _ _ (s1 _ _ hu)))))))
      rw [← z, f9] at y
      cases y
    refine ⟨_, rfl, _, rfl, d, a, ns, rfl, S.same s19, fun n H2 n0 n1 g => ?_⟩
    have e9' := g.1 _ _ (upd_same (a := q9) (o := .lst (((((x1 ++ x2) ++ x3) ++ x4) ++ x5).map V.str))) nq
    refine ⟨_, rfl, q9, _, rfl, .inl (SqL.of e9'), ?_⟩
    have hlen : (0 : Int) < ((((((x1 ++ x2) ++ x3) ++ x4) ++ x5).map V.str).length : Int) := by
      rw [List.length_map, List.length_append, List.length_append, List.length_append, List.length_append]
      omega
    have hm := mod_in n hlen
    obtain ⟨y, hy, ey⟩ := ix_in hm.1 hm.2
    obtain ⟨x, hx, rfl⟩ := List.mem_map.mp hy
    refine ⟨_, _, rfl, rfl, hlen, q9, _, _, _, rfl, rfl, SqL.of e9', ey, k x H2 ?_ ((S.refl.on s19).trans g)⟩
    simp only [List.mem_append] at hx
    rcases hx with (((hx | hx) | hx) | hx) | hx
    · exact h1 x hx
    · exact h2 x hx
    · exact h3 x hx
    · exact h4 x hx
    · exact h5 x hx
end
end Fw

/-! ==== FwL8 ==== -/
set_option Elab.async false
set_option linter.all false
set_option maxRecDepth 100000
set_option maxHeartbeats 4000000
/-! walks of the law: bent rows, bent texts; only their length is told. Printed by bent.py -/
namespace Fw
open PySem PySem.Spec PyProof.Rows L2 TL
section
variable {X : Cx}
theorem take_lens (ws : List Str) (i k : Nat) : lens ((ws.drop i).take k) ≤ lens ws := Nat.le_trans (lens_take _ _) (lens_drop _ _)
theorem lens_one (x : Str) : lens [x] = x.length + 1 := by
  rw [lens_cons, lens_nil]
theorem cutS_len (z : Str) (lo hi : Option Int) : (cutS z lo hi).length ≤ z.length := by
  rw [len_tl, len_tl]
  unfold cutS
  show (((tl z).drop _).take _).length ≤ _
  rw [List.length_take, List.length_drop]
  omega
def rSlB (K : PySem.W.Frag) : V → Option Int → Option Int → Hp → VK → Prop := fun x lo hi H Q => ∃ a, ∃ ws : List Str, x = .ref a ∧ SqL K H a (ws.map V.str) ∧ ∀ p (ys : List Str), lens ys ≤ lens ws → H p = none → Q (.ref p) (upd H p (.lst (ys.map V.str)))
theorem sl_wordsB : SlR X (rSlB X.K) := by
  intro pins s σ H x v vl vu lo hi sl Q I rx hs pl pu h
  obtain ⟨a, ws, rfl, hx, q⟩ := h
  refine sl_list pins s σ H _ v vl vu lo hi sl Q I rx hs pl pu ⟨a, _, rfl, hx, fun p hp => ?_⟩
  have e : cutV (ws.map V.str) lo hi = ((ws.drop (HT.sIx (ws.map V.str).length 0 lo)).take (HT.sIx (ws.map V.str).length (ws.map V.str).length hi - HT.sIx (ws.map V.str).length 0 lo)).map V.str := by
    unfold cutV
    rw [List.map_take, List.map_drop]
  rw [e]
  exact q p _ (take_lens _ _ _) hp
def rCatB : R2 := fun x y H Q => ∃ l b, ∃ xs zs : List Str, x = .ref l ∧ y = .ref b ∧ H l = some (.lst (xs.map V.str)) ∧ H b = some (.lst (zs.map V.str)) ∧ lens xs + lens zs ≤ 10000000 ∧ ∀ p (ys : List Str), lens ys = lens xs + lens zs → H p = none → Q (.ref p) (upd H p (.lst (ys.map V.str)))
theorem ten_line : 10000000 < sizeLine := by decide
theorem op_catB : OpR X (binaryOp .Add) rCatB := by
  intro pins s σ H x y v u Q I rx ry h
  obtain ⟨l, b, xs, zs, rfl, rfl, h1, h2, hz, q⟩ := h
  refine op_cat pins s σ H _ _ v u Q I rx ry ⟨l, b, _, _, rfl, rfl, h1, h2, ?_, fun p hp => ?_⟩
  · rw [List.length_map, List.length_map]
    have := lens_len xs
    have := lens_len zs
    have := ten_line
    omega
  · rw [← List.map_append]
    exact q p _ (lens_app _ _) hp
def rRepB : R2 := fun x y H Q => ∃ l k, ∃ z : Str, x = .ref l ∧ y = .int k ∧ H l = some (.lst [V.str z]) ∧ (0 ≤ k ∧ k ≤ 1) ∧ ∀ p (ys : List Str), lens ys ≤ z.length + 1 → H p = none → Q (.ref p) (upd H p (.lst (ys.map V.str)))
theorem op_repB : OpR X (binaryOp .Mult) rRepB := by
  intro pins s σ H x y v u Q I rx ry h
  obtain ⟨l, k, z, rfl, rfl, h1, hk, q⟩ := h
  refine op_rep pins s σ H _ _ v u Q I rx ry ⟨l, k, _, rfl, rfl, h1, by omega, by omega, ?_, fun p hp => ?_⟩
  · have : k.toNat ≤ 1 := by omega
    have := ten_line
    rw [List.length_singleton]
    omega
  · rcases (show k = 0 ∨ k = 1 by omega) with rfl | rfl
    · exact q p [] (Nat.zero_le _) hp
    · exact q p [z] (Nat.le_of_eq (lens_one z)) hp
def rJoinB (K : PySem.W.Frag) : V → List V → Hp → VK → Prop := fun x xs H Q => ∃ (a : Str) (p : Addr) (ys : List Str), x = .str a ∧ xs = [.ref p] ∧ H p = some (.lst (ys.map V.str)) ∧ (∃ s, tl a = [s]) ∧ lens ys ≤ 10000000 ∧ ∀ z : Str, z.length ≤ lens ys → Q (.str z) H
theorem mt_joinB : MtR X "str.join" (rJoinB X.K) := by
  intro pins s σ H x xs v us Q I rx rs h
  obtain ⟨a, p, ys, rfl, rfl, hp, ⟨c, hc⟩, hl, q⟩ := h
  refine mt_join pins s σ H _ _ v us Q I rx rs ⟨a, p, ys, rfl, rfl, .inl (SqL.of hp), join_room (by rw [len_tl, hc]; exact Nat.le_refl _) hl (by decide), q _ (join_le hc ys)⟩
end
section
variable {P : Program} {w : World} {K : PySem.W.Frag} {mg : Str → Option Value} {base : Heap}
theorem Go.lst {H0 H H' : Hp} {d a x : Addr} {ns : List Int} {o : List V} (S : St K H0 d a ns) (G : Go d a H0 H) (g : Go d a H H') (e : H x = some (.lst o)) : H' x = some (.lst o) := by
  obtain ⟨⟨z, hz⟩, _⟩ := S.go G
  exact g.1 _ _ e (ne_of e hz (by intro z; cases z))
def spBW (K : PySem.W.Frag) : Sp := fun vs H Q _ => ∃ (d a : Addr) (ns : List Int) (x : Str), vs = [.ref d, .str x] ∧ St K H d a ns ∧ x.length ≤ 200000 ∧ ∀ (y : Str) H', y.length ≤ 3 * x.length + 20 → Go d a H H' → Q (.str y) H'
theorem sign_len : (tl (Str.ofString " -:0123456789abzA.")).length = 18 := by decide +kernel
abbrev nn_law_bent_words : List Str := ["_law_state", "_law_row", "_law_words", "_law_number_here", "_law_at", "_law_spot", "_law_way", "_law_sign"]
theorem sc_law_bent_words : FnScope nn_law_bent_words ["_law_state", "_law_row"] (defScope s_law_bent_words) := ⟨rfl, rfl, rfl, by decide +kernel, rfl, by decide +kernel, by decide +kernel⟩
theorem ok_law_bent_words (T : Tx K mg) : OkD P w K mg base CX0 3 ("_law_bent_words", none) ["_law_state", "_law_row"] (spBW K) := by
  obtain ⟨fd_law_next, G_law_next, b_law_next, k_law_next⟩ := ok_law_next (P := P) (w := w) (base := base) T
  obtain ⟨fd_law_odd_word, G_law_odd_word, b_law_odd_word, k_law_odd_word⟩ := ok_law_odd_word (P := P) (w := w) (base := base) T
  refine OkD.mk T.f_law_bent_words sc_law_bent_words (fun _ _ _ _ _ _ us hl => match us, hl with | [_, _], _ => rfl) (fun vs H Q E h => ?_) (fun cdv A outer s H vs Q E hr h => ?_)
  · obtain ⟨d, a, ns, x, rfl, _⟩ := h
    rfl
  · obtain ⟨d, a, ns, x, rfl, S, hx, k⟩ := h
    have hr_law_next : Room 1 _ := hr.mono (by decide)
    have hr_law_odd_word : Room 2 _ := hr.mono (by decide)
    refine ⟨_, (pss_cons (ps_set (i := 2) sc_law_bent_words.nd rfl (Or.inl rfl) (pe_split (pv 1) pe_str))
      (pss_cons (ps_set (i := 3) sc_law_bent_words.nd rfl (Or.inl rfl) (pe_call G_law_next hr_law_next (by rfl) T.g_law_next k_law_next b_law_next .nil pass0 (pa_cons (pv 0) pa_nil)))
      (pss_cons (ps_set (i := 4) sc_law_bent_words.nd rfl (Or.inl rfl) (pe_op op_mod (pe_op op_fdiv (pv 3) pe_int) (pe_callB call_len_seq (by rfl) T.b_len bv_len (pa_cons (pv 2) pa_nil))))
      (pss_cons (ps_set (i := 5) sc_law_bent_words.nd rfl (Or.inl rfl) (pe_op op_mod (pe_op op_fdiv (pv 3) pe_int) (pe_op op_add (pe_callB call_len_str (by rfl) T.b_len bv_len (pa_cons (pv 1) pa_nil)) pe_int)))
      (pss_cons (ps_set (i := 6) sc_law_bent_words.nd rfl (Or.inl rfl) (pe_op op_mod (pv 3) pe_int))
      (pss_cons (ps_if (pt_cmpR op_lt (pv 6) pe_int (by first | exact nomark _ | rfl))
        (pss_one (ps_ret (pe_m1 PySem.F.slot_str_join PySem.F.type_str_join mt_joinB pe_str (pe_op op_catB (pe_op op_catB (pe_slice sl_wordsB (pv 2) po_none (po_some (pv 4))) (pe_lst (pa_cons (pe_call G_law_odd_word hr_law_odd_word (by rfl) T.g_law_odd_word k_law_odd_word b_law_odd_word .nil pass0 (pa_cons (pv 0) pa_nil)) pa_nil))) (pe_slice sl_wordsB (pv 2) (po_some (pe_op op_add (pv 4) pe_int)) po_none)))))
        pss_nil)
      (pss_cons (ps_if (pt_cmpR op_eq (pv 6) pe_int (by first | exact nomark _ | rfl))
        (pss_one (ps_ret (pe_m1 PySem.F.slot_str_join PySem.F.type_str_join mt_joinB pe_str (pe_op op_catB (pe_slice sl_wordsB (pv 2) po_none (po_some (pv 4))) (pe_slice sl_wordsB (pv 2) (po_some (pe_op op_add (pv 4) pe_int)) po_none)))))
        pss_nil)
      (pss_cons (ps_if (pt_cmpR op_eq (pv 6) pe_int (by first | exact nomark _ | rfl))
        (pss_one (ps_ret (pe_m1 PySem.F.slot_str_join PySem.F.type_str_join mt_joinB pe_str (pe_op op_catB (pe_slice sl_wordsB (pv 2) po_none (po_some (pe_op op_add (pv 4) pe_int))) (pe_slice sl_wordsB (pv 2) (po_some (pv 4)) po_none)))))
        pss_nil)
      (pss_cons (ps_if (pt_cmpR op_eq (pv 6) pe_int (by first | exact nomark _ | rfl))
        (pss_one (ps_ret (pe_m1 PySem.F.slot_str_join PySem.F.type_str_join mt_joinB pe_str (pe_op op_catB (pe_op op_catB (pe_slice sl_wordsB (pv 2) po_none (po_some (pv 4))) (pe_revL (pe_slice sl_wordsB (pv 2) (po_some (pv 4)) (po_some (pe_op op_add (pv 4) pe_int))))) (pe_slice sl_wordsB (pv 2) (po_some (pe_op op_add (pv 4) pe_int)) po_none)))))
        pss_nil)
      (pss_cons (ps_set (i := 7) sc_law_bent_words.nd rfl (Or.inl rfl) (pe_ix ix_str pe_str (pe_op op_mod (pe_call G_law_next hr_law_next (by rfl) T.g_law_next k_law_next b_law_next .nil pass0 (pa_cons (pv 0) pa_nil)) pe_int) (fun _ _ => rfl)))
      (pss_one (ps_ret (pe_op op_add_str (pe_op op_add_str (pe_slice sl_str (pv 1) po_none (po_some (pv 5))) (pv 7)) (pe_slice sl_str (pv 1) (po_some (pe_op op_sub (pe_op op_add (pv 5) (pv 6)) pe_int)) po_none)))))))))))))), ?_⟩
    have ten := ten_line
    refine ⟨_, rfl, ⟨_, rfl⟩, _, _, rfl, rfl, rfl, by omega, fun q hq => ?_⟩
    have G0 := S.refl.on (same_new (o := .lst ((Txt.split x sBl).map V.str)) hq)
    have e0 := upd_same (H := H) (a := q) (o := .lst ((Txt.split x sBl).map V.str))
    have lw := split_lens bl_tl (by decide) x
    have pw : (0 : Int) < (((Txt.split x sBl).map V.str).length : Int) := by
      rw [List.length_map]
      have : (Txt.split x sBl).length ≠ 0 := fun z => split_ne bl_tl (by decide) x (List.length_eq_zero_iff.mp z)
      omega
    refine ⟨_, rfl, d, a, ns, rfl, S.go G0, fun n H1 n0 n1 g1 => ?_⟩
    have G1 := G0.trans g1
    have e1 := Go.lst S G0 g1 e0
    refine ⟨_, rfl, _, _, rfl, rfl, ⟨by decide, by decide⟩, _, rfl, q, _, rfl, .inl (SqL.of e1), _, _, rfl, rfl, pw, ?_⟩
    refine ⟨_, rfl, _, _, rfl, rfl, ⟨by decide, by decide⟩, _, rfl, _, rfl, by omega, _, _, rfl, rfl, _, _, rfl, rfl, pos (by omega), ?_⟩
    refine ⟨_, rfl, _, _, rfl, rfl, pos (by decide), ?_⟩
    refine ⟨_, rfl, _, _, rfl, rfl, _, rfl, ?_⟩
    refine ite2 (fun _ => ?_) (fun _ => ?_)
    · skip
      refine ⟨⟨_, rfl⟩, _, rfl, _, rfl, _, rfl, q, _, rfl, SqL.of e1, fun p1 y1 l1 h1 => ?_⟩
      have g2 := (S.go G1).refl.on (same_new (o := .lst (y1.map V.str)) h1)
      have G2 := G1.trans g2
      refine ⟨_, rfl, d, a, ns, rfl, S.go G2, fun ox H3 ol g3 => ⟨by show 1 ≤ sizeLine; omega, fun p2 h2 => ?_⟩⟩
      have G3 := G2.trans g3
      have g4 := (S.go G3).refl.on (same_new (o := .lst [V.str ox]) h2)
      have G4 := G3.trans g4
      refine ⟨p1, p2, y1, [ox], rfl, rfl, (Go.lst S G3 g4 (Go.lst S G2 g3 upd_same)), upd_same, by rw [lens_one]; omega, fun p3 y3 l3 h3 => ?_⟩
      rw [lens_one] at l3
      have g5 := (S.go G4).refl.on (same_new (o := .lst (y3.map V.str)) h3)
      have G5 := G4.trans g5
      refine ⟨_, rfl, _, rfl, _, _, rfl, rfl, _, rfl, q, _, rfl, SqL.of (Go.lst S G4 g5 (Go.lst S G3 g4 (Go.lst S G2 g3 (Go.lst S G1 g2 e1)))), fun p4 y4 l4 h4 => ?_⟩
      have g6 := (S.go G5).refl.on (same_new (o := .lst (y4.map V.str)) h4)
      have G6 := G5.trans g6
      refine ⟨p3, p4, y3, y4, rfl, rfl, (Go.lst S G5 g6 upd_same), upd_same, by omega, fun p5 y5 l5 h5 => ?_⟩
      have g7 := (S.go G6).refl.on (same_new (o := .lst (y5.map V.str)) h5)
      have G7 := G6.trans g7
      refine ⟨_, p5, y5, rfl, rfl, upd_same, ⟨_, bl_tl⟩, by omega, fun z hz => k z _ (by omega) G7⟩
    refine ⟨_, rfl, rfl, _, rfl, ite2 (fun _ => ?_) (fun _ => ?_)⟩
    · skip
      refine ⟨⟨_, rfl⟩, _, rfl, _, rfl, _, rfl, q, _, rfl, SqL.of e1, fun p1 y1 l1 h1 => ?_⟩
      have g2 := (S.go G1).refl.on (same_new (o := .lst (y1.map V.str)) h1)
      have G2 := G1.trans g2
      refine ⟨_, rfl, _, rfl, _, _, rfl, rfl, _, rfl, q, _, rfl, SqL.of (Go.lst S G1 g2 e1), fun p2 y2 l2 h2 => ?_⟩
      have g3 := (S.go G2).refl.on (same_new (o := .lst (y2.map V.str)) h2)
      have G3 := G2.trans g3
      refine ⟨p1, p2, y1, y2, rfl, rfl, (Go.lst S G2 g3 upd_same), upd_same, by omega, fun p3 y3 l3 h3 => ?_⟩
      have g4 := (S.go G3).refl.on (same_new (o := .lst (y3.map V.str)) h3)
      have G4 := G3.trans g4
      refine ⟨_, p3, y3, rfl, rfl, upd_same, ⟨_, bl_tl⟩, by omega, fun z hz => k z _ (by omega) G4⟩
    refine ⟨_, rfl, rfl, _, rfl, ite2 (fun _ => ?_) (fun _ => ?_)⟩
    · skip
      refine ⟨⟨_, rfl⟩, _, rfl, _, rfl, _, _, rfl, rfl, _, rfl, q, _, rfl, SqL.of e1, fun p1 y1 l1 h1 => ?_⟩
      have g2 := (S.go G1).refl.on (same_new (o := .lst (y1.map V.str)) h1)
      have G2 := G1.trans g2
      refine ⟨_, rfl, _, rfl, _, rfl, q, _, rfl, SqL.of (Go.lst S G1 g2 e1), fun p2 y2 l2 h2 => ?_⟩
      have g3 := (S.go G2).refl.on (same_new (o := .lst (y2.map V.str)) h2)
      have G3 := G2.trans g3
      refine ⟨p1, p2, y1, y2, rfl, rfl, (Go.lst S G2 g3 upd_same), upd_same, by omega, fun p3 y3 l3 h3 => ?_⟩
      have g4 := (S.go G3).refl.on (same_new (o := .lst (y3.map V.str)) h3)
      have G4 := G3.trans g4
      refine ⟨_, p3, y3, rfl, rfl, upd_same, ⟨_, bl_tl⟩, by omega, fun z hz => k z _ (by omega) G4⟩
    refine ⟨_, rfl, rfl, _, rfl, ite2 (fun _ => ?_) (fun _ => ?_)⟩
    · skip
      refine ⟨⟨_, rfl⟩, _, rfl, _, rfl, _, rfl, q, _, rfl, SqL.of e1, fun p1 y1 l1 h1 => ?_⟩
      have g2 := (S.go G1).refl.on (same_new (o := .lst (y1.map V.str)) h1)
      have G2 := G1.trans g2
      refine ⟨_, rfl, _, rfl, _, rfl, _, rfl, _, _, rfl, rfl, _, rfl, q, _, rfl, SqL.of (Go.lst S G1 g2 e1), fun p2 y2 l2 h2 => ?_⟩
      have g3 := (S.go G2).refl.on (same_new (o := .lst (y2.map V.str)) h2)
      have G3 := G2.trans g3
      refine ⟨p2, _, rfl, SqL.of upd_same, fun p3 h3 => ?_⟩
      rw [← List.map_reverse]
      have l3 := lens_rev y2
      have g4 := (S.go G3).refl.on (same_new (o := .lst (y2.reverse.map V.str)) h3)
      have G4 := G3.trans g4
      refine ⟨p1, p3, y1, y2.reverse, rfl, rfl, (Go.lst S G3 g4 (Go.lst S G2 g3 upd_same)), upd_same, by rw [lens_rev]; omega, fun p4 y4 l4 h4 => ?_⟩
      rw [lens_rev] at l4
      have g5 := (S.go G4).refl.on (same_new (o := .lst (y4.map V.str)) h4)
      have G5 := G4.trans g5
      refine ⟨_, rfl, _, rfl, _, _, rfl, rfl, _, rfl, q, _, rfl, SqL.of (Go.lst S G4 g5 (Go.lst S G3 g4 (Go.lst S G2 g3 (Go.lst S G1 g2 e1)))), fun p5 y5 l5 h5 => ?_⟩
      have g6 := (S.go G5).refl.on (same_new (o := .lst (y5.map V.str)) h5)
      have G6 := G5.trans g6
      refine ⟨p4, p5, y4, y5, rfl, rfl, (Go.lst S G5 g6 upd_same), upd_same, by omega, fun p6 y6 l6 h6 => ?_⟩
      have g7 := (S.go G6).refl.on (same_new (o := .lst (y6.map V.str)) h6)
      have G7 := G6.trans g7
      refine ⟨_, p6, y6, rfl, rfl, upd_same, ⟨_, bl_tl⟩, by omega, fun z hz => k z _ (by omega) G7⟩
    refine ⟨_, rfl, d, a, ns, rfl, S.go G1, fun m H2 m0 m1 g2 => ?_⟩
    have hm := mod_in m (n := 18) (by decide)
    obtain ⟨c, _, ec⟩ := ix_in (xs := tl (Str.ofString " -:0123456789abzA.")) hm.1 (by rw [sign_len]; exact hm.2)
    refine ⟨_, _, rfl, rfl, pos (by decide), _, _, c, rfl, rfl, by decide +kernel, ec, ?_⟩
    have c1 := cutS_len x
    refine ⟨_, rfl, _, rfl, _, rfl, x, rfl, by omega, _, rfl, _, _, rfl, rfl, ?_, _, rfl, _, rfl, _, rfl, _, _, rfl, rfl, _, _, rfl, rfl, _, rfl, x, rfl, by omega, _, _, rfl, rfl, ?_, k _ H2 ?_ (G1.trans g2)⟩
    · have := c1 none (some (n / 8 % ((x.length : Int) + 1)))
      show _ + 1 ≤ _
      omega
    · rw [PySem.Str.length_append]
      refine Nat.le_trans (Nat.add_le_add (Nat.add_le_add (c1 _ _) (Nat.le_refl 1)) (c1 _ _)) ?_
      omega
    · rw [PySem.Str.length_append, PySem.Str.length_append]
      refine Nat.le_trans (Nat.add_le_add (Nat.add_le_add (c1 _ _) (Nat.le_refl 1)) (c1 _ _)) ?_
      omega
def spBent (K : PySem.W.Frag) : Sp := fun vs H Q _ => ∃ (d a m : Addr) (ns : List Int) (x : Str) (ms : List Str), vs = [.ref d, .str x, .ref m] ∧ St K H d a ns ∧ x.length ≤ 100000 ∧ H m = some (.lst (ms.map V.str)) ∧ ms ≠ [] ∧ (∀ x ∈ ms, x.length ≤ 16) ∧
  ∀ (y : Str) H', y.length ≤ 5 * x.length + 40 → Go d a H H' → Q (.str y) H'
abbrev nn_law_bent : List Str := ["_law_state", "_law_text_here", "_law_more", "_law_rows", "_law_number_here", "_law_at", "_law_way", "_law_one", "_law_to", "_law_ahead"]
theorem sc_law_bent : FnScope nn_law_bent ["_law_state", "_law_text_here", "_law_more"] (defScope s_law_bent) := ⟨rfl, rfl, rfl, by decide +kernel, rfl, by decide +kernel, by decide +kernel⟩
theorem ok_law_bent (T : Tx K mg) : OkD P w K mg base CX0 4 ("_law_bent", none) ["_law_state", "_law_text_here", "_law_more"] (spBent K) := by
  obtain ⟨fd_law_bent_words, G_law_bent_words, b_law_bent_words, k_law_bent_words⟩ := ok_law_bent_words (P := P) (w := w) (base := base) T
  obtain ⟨fd_law_next, G_law_next, b_law_next, k_law_next⟩ := ok_law_next (P := P) (w := w) (base := base) T
  refine OkD.mk T.f_law_bent sc_law_bent (fun _ _ _ _ _ _ us hl => match us, hl with | [_, _, _], _ => rfl) (fun vs H Q E h => ?_) (fun cdv A outer s H vs Q E hr h => ?_)
  · obtain ⟨d, a, m, ns, x, ms, rfl, _⟩ := h
    rfl
  · obtain ⟨d, a, m, ns, x, ms, rfl, S, hx, hm, hms, h12, k⟩ := h
    have hr_law_bent_words : Room 3 _ := hr.mono (by decide)
    have hr_law_next : Room 1 _ := hr.mono (by decide)
    refine ⟨_, (pss_cons (ps_set (i := 3) sc_law_bent.nd rfl (Or.inl rfl) (pe_split (pv 1) pe_str))
      (pss_cons (ps_set (i := 4) sc_law_bent.nd rfl (Or.inl rfl) (pe_call G_law_next hr_law_next (by rfl) T.g_law_next k_law_next b_law_next .nil pass0 (pa_cons (pv 0) pa_nil)))
      (pss_cons (ps_set (i := 5) sc_law_bent.nd rfl (Or.inl rfl) (pe_op op_mod (pe_op op_fdiv (pv 4) pe_int) (pe_callB call_len_seq (by rfl) T.b_len bv_len (pa_cons (pv 3) pa_nil))))
      (pss_cons (ps_set (i := 6) sc_law_bent.nd rfl (Or.inl rfl) (pe_op op_mod (pv 4) pe_int))
      (pss_cons (ps_if (pt_cmpR op_lt (pv 6) pe_int (by first | exact nomark _ | rfl))
        (pss_one (ps_ret (pe_m1 PySem.F.slot_str_join PySem.F.type_str_join mt_joinB pe_str (pe_op op_catB (pe_op op_catB (pe_slice sl_wordsB (pv 3) po_none (po_some (pv 5))) (pe_lst (pa_cons (pe_call G_law_bent_words hr_law_bent_words (by rfl) T.g_law_bent_words k_law_bent_words b_law_bent_words .nil pass0 (pa_cons (pv 0) (pa_cons (pe_ix ix_list (pv 3) (pv 5) (fun _ _ => rfl)) pa_nil))) pa_nil))) (pe_slice sl_wordsB (pv 3) (po_some (pe_op op_add (pv 5) pe_int)) po_none)))))
        pss_nil)
      (pss_cons (ps_if (pt_cmpR op_eq (pv 6) pe_int (by first | exact nomark _ | rfl))
        (pss_one (ps_ret (pe_m1 PySem.F.slot_str_join PySem.F.type_str_join mt_joinB pe_str (pe_op op_catB (pe_slice sl_wordsB (pv 3) po_none (po_some (pv 5))) (pe_slice sl_wordsB (pv 3) (po_some (pe_op op_add (pv 5) pe_int)) po_none)))))
        pss_nil)
      (pss_cons (ps_if (pt_cmpR op_eq (pv 6) pe_int (by first | exact nomark _ | rfl))
        (pss_one (ps_ret (pe_m1 PySem.F.slot_str_join PySem.F.type_str_join mt_joinB pe_str (pe_op op_catB (pe_slice sl_wordsB (pv 3) po_none (po_some (pe_op op_add (pv 5) pe_int))) (pe_slice sl_wordsB (pv 3) (po_some (pv 5)) po_none)))))
        pss_nil)
      (pss_cons (ps_if (pt_cmpR op_eq (pv 6) pe_int (by first | exact nomark _ | rfl))
        (pss_one (ps_ret (pe_m1 PySem.F.slot_str_join PySem.F.type_str_join mt_joinB pe_str (pe_op op_catB (pe_op op_catB (pe_slice sl_wordsB (pv 3) po_none (po_some (pv 5))) (pe_revL (pe_slice sl_wordsB (pv 3) (po_some (pv 5)) (po_some (pe_op op_add (pv 5) pe_int))))) (pe_slice sl_wordsB (pv 3) (po_some (pe_op op_add (pv 5) pe_int)) po_none)))))
        pss_nil)
      (pss_cons (ps_if (pt_cmpR op_eq (pv 6) pe_int (by first | exact nomark _ | rfl))
        (pss_cons (ps_set (i := 7) sc_law_bent.nd rfl (Or.inl rfl) (pe_ix ix_list (pv 2) (pe_op op_mod (pe_call G_law_next hr_law_next (by rfl) T.g_law_next k_law_next b_law_next .nil pass0 (pa_cons (pv 0) pa_nil)) (pe_callB call_len_seq (by rfl) T.b_len bv_len (pa_cons (pv 2) pa_nil))) (fun _ _ => rfl)))
          (pss_one (ps_ret (pe_m1 PySem.F.slot_str_join PySem.F.type_str_join mt_joinB pe_str (pe_op op_catB (pe_op op_catB (pe_slice sl_wordsB (pv 3) po_none (po_some (pv 5))) (pe_lst (pa_cons (pv 7) pa_nil))) (pe_slice sl_wordsB (pv 3) (po_some (pv 5)) po_none))))))
        pss_nil)
      (pss_cons (ps_set (i := 8) sc_law_bent.nd rfl (Or.inl rfl) (pe_op op_mod (pe_call G_law_next hr_law_next (by rfl) T.g_law_next k_law_next b_law_next .nil pass0 (pa_cons (pv 0) pa_nil)) (pe_callB call_len_seq (by rfl) T.b_len bv_len (pa_cons (pv 3) pa_nil))))
      (pss_cons (ps_set (i := 9) sc_law_bent.nd rfl (Or.inl rfl) (pe_op op_repB (pe_lst (pa_cons (pe_ix ix_list (pv 3) (pv 5) (fun _ _ => rfl)) pa_nil)) (pe_callTy call_int1 (by rfl) T.b_int bv_int (pa_cons (pe_op op_mod (pe_op op_fdiv (pv 4) pe_int) pe_int) pa_nil))))
      (pss_one (ps_ret (pe_m1 PySem.F.slot_str_join PySem.F.type_str_join mt_joinB pe_str (pe_op op_catB (pe_op op_catB (pe_op op_catB (pv 9) (pe_slice sl_wordsB (pv 3) po_none (po_some (pv 8)))) (pe_slice sl_wordsB (pv 3) (po_some (pe_op op_add (pv 8) pe_int)) po_none)) (pe_lst (pa_cons (pe_ix ix_list (pv 3) (pv 8) (fun _ _ => rfl)) pa_nil))))))))))))))))), ?_⟩
    have ten := ten_line
    refine ⟨_, rfl, ⟨_, rfl⟩, _, _, rfl, rfl, rfl, by omega, fun q hq => ?_⟩
    have g0 := S.refl.on (same_new (o := .lst ((Txt.split x sNl).map V.str)) hq)
    have G0 := g0
    have e0 := upd_same (H := H) (a := q) (o := .lst ((Txt.split x sNl).map V.str))
    have lw := split_lens nl_tl (by decide) x
    have pw : (0 : Int) < (((Txt.split x sNl).map V.str).length : Int) := by
      rw [List.length_map]
      have : (Txt.split x sNl).length ≠ 0 := fun z => split_ne nl_tl (by decide) x (List.length_eq_zero_iff.mp z)
      omega
    refine ⟨_, rfl, d, a, ns, rfl, S.go G0, fun n H1 n0 n1 g1 => ?_⟩
    have G1 := G0.trans g1
    have e1 := Go.lst S G0 g1 e0
    have em := Go.lst S G0 g1 (Go.lst S S.refl g0 hm)
    refine ⟨_, rfl, _, _, rfl, rfl, ⟨by decide, by decide⟩, _, rfl, q, _, rfl, .inl (SqL.of e1), _, _, rfl, rfl, pw, ?_⟩
    refine ⟨_, rfl, _, _, rfl, rfl, pos (by decide), ?_⟩
    have hat := mod_in (n / 10) pw
    obtain ⟨rv, hrv, erv⟩ := ix_in hat.1 hat.2
    obtain ⟨r, hr_, rfl⟩ := List.mem_map.mp hrv
    have lr := lens_mem hr_
    refine ⟨_, rfl, _, _, rfl, rfl, _, rfl, ?_⟩
    refine ite2 (fun _ => ?_) (fun _ => ?_)
    · skip
      refine ⟨⟨_, rfl⟩, _, rfl, _, rfl, _, rfl, q, _, rfl, SqL.of e1, fun p1 y1 l1 h1 => ?_⟩
      have g2 := (S.go G1).refl.on (same_new (o := .lst (y1.map V.str)) h1)
      have G2 := G1.trans g2
      refine ⟨_, rfl, _, rfl, _, rfl, q, _, _, _, rfl, rfl, SqL.of (Go.lst S G1 g2 e1), erv, d, a, ns, r, rfl, S.go G2, by omega, fun ox H3 ol g3 => ⟨by show 1 ≤ sizeLine; omega, fun p2 h2 => ?_⟩⟩
      have G3 := G2.trans g3
      have g4 := (S.go G3).refl.on (same_new (o := .lst [V.str ox]) h2)
      have G4 := G3.trans g4
      refine ⟨p1, p2, y1, [ox], rfl, rfl, (Go.lst S G3 g4 (Go.lst S G2 g3 upd_same)), upd_same, by rw [lens_one]; omega, fun p3 y3 l3 h3 => ?_⟩
      rw [lens_one] at l3
      have g5 := (S.go G4).refl.on (same_new (o := .lst (y3.map V.str)) h3)
      have G5 := G4.trans g5
      refine ⟨_, rfl, _, rfl, _, _, rfl, rfl, _, rfl, q, _, rfl, SqL.of (Go.lst S G4 g5 (Go.lst S G3 g4 (Go.lst S G2 g3 (Go.lst S G1 g2 e1)))), fun p4 y4 l4 h4 => ?_⟩
      have g6 := (S.go G5).refl.on (same_new (o := .lst (y4.map V.str)) h4)
      have G6 := G5.trans g6
      refine ⟨p3, p4, y3, y4, rfl, rfl, (Go.lst S G5 g6 upd_same), upd_same, by omega, fun p5 y5 l5 h5 => ?_⟩
      have g7 := (S.go G6).refl.on (same_new (o := .lst (y5.map V.str)) h5)
      have G7 := G6.trans g7
      refine ⟨_, p5, y5, rfl, rfl, upd_same, ⟨_, nl_tl⟩, by omega, fun z hz => k z _ (by omega) G7⟩
    refine ⟨_, rfl, rfl, _, rfl, ite2 (fun _ => ?_) (fun _ => ?_)⟩
    · skip
      refine ⟨⟨_, rfl⟩, _, rfl, _, rfl, _, rfl, q, _, rfl, SqL.of e1, fun p1 y1 l1 h1 => ?_⟩
      have g2 := (S.go G1).refl.on (same_new (o := .lst (y1.map V.str)) h1)
      have G2 := G1.trans g2
      refine ⟨_, rfl, _, rfl, _, _, rfl, rfl, _, rfl, q, _, rfl, SqL.of (Go.lst S G1 g2 e1), fun p2 y2 l2 h2 => ?_⟩
      have g3 := (S.go G2).refl.on (same_new (o := .lst (y2.map V.str)) h2)
      have G3 := G2.trans g3
      refine ⟨p1, p2, y1, y2, rfl, rfl, (Go.lst S G2 g3 upd_same), upd_same, by omega, fun p3 y3 l3 h3 => ?_⟩
      have g4 := (S.go G3).refl.on (same_new (o := .lst (y3.map V.str)) h3)
      have G4 := G3.trans g4
      refine ⟨_, p3, y3, rfl, rfl, upd_same, ⟨_, nl_tl⟩, by omega, fun z hz => k z _ (by omega) G4⟩
    refine ⟨_, rfl, rfl, _, rfl, ite2 (fun _ => ?_) (fun _ => ?_)⟩
    · skip
      refine ⟨⟨_, rfl⟩, _, rfl, _, rfl, _, _, rfl, rfl, _, rfl, q, _, rfl, SqL.of e1, fun p1 y1 l1 h1 => ?_⟩
      have g2 := (S.go G1).refl.on (same_new (o := .lst (y1.map V.str)) h1)
      have G2 := G1.trans g2
      refine ⟨_, rfl, _, rfl, _, rfl, q, _, rfl, SqL.of (Go.lst S G1 g2 e1), fun p2 y2 l2 h2 => ?_⟩
      have g3 := (S.go G2).refl.on (same_new (o := .lst (y2.map V.str)) h2)
      have G3 := G2.trans g3
      refine ⟨p1, p2, y1, y2, rfl, rfl, (Go.lst S G2 g3 upd_same), upd_same, by omega, fun p3 y3 l3 h3 => ?_⟩
      have g4 := (S.go G3).refl.on (same_new (o := .lst (y3.map V.str)) h3)
      have G4 := G3.trans g4
      refine ⟨_, p3, y3, rfl, rfl, upd_same, ⟨_, nl_tl⟩, by omega, fun z hz => k z _ (by omega) G4⟩
    refine ⟨_, rfl, rfl, _, rfl, ite2 (fun _ => ?_) (fun _ => ?_)⟩
    · skip
      refine ⟨⟨_, rfl⟩, _, rfl, _, rfl, _, rfl, q, _, rfl, SqL.of e1, fun p1 y1 l1 h1 => ?_⟩
      have g2 := (S.go G1).refl.on (same_new (o := .lst (y1.map V.str)) h1)
      have G2 := G1.trans g2
      refine ⟨_, rfl, _, rfl, _, rfl, _, rfl, _, _, rfl, rfl, _, rfl, q, _, rfl, SqL.of (Go.lst S G1 g2 e1), fun p2 y2 l2 h2 => ?_⟩
      have g3 := (S.go G2).refl.on (same_new (o := .lst (y2.map V.str)) h2)
      have G3 := G2.trans g3
      refine ⟨p2, _, rfl, SqL.of upd_same, fun p3 h3 => ?_⟩
      rw [← List.map_reverse]
      have l3 := lens_rev y2
      have g4 := (S.go G3).refl.on (same_new (o := .lst (y2.reverse.map V.str)) h3)
      have G4 := G3.trans g4
      refine ⟨p1, p3, y1, y2.reverse, rfl, rfl, (Go.lst S G3 g4 (Go.lst S G2 g3 upd_same)), upd_same, by rw [lens_rev]; omega, fun p4 y4 l4 h4 => ?_⟩
      rw [lens_rev] at l4
      have g5 := (S.go G4).refl.on (same_new (o := .lst (y4.map V.str)) h4)
      have G5 := G4.trans g5
      refine ⟨_, rfl, _, rfl, _, _, rfl, rfl, _, rfl, q, _, rfl, SqL.of (Go.lst S G4 g5 (Go.lst S G3 g4 (Go.lst S G2 g3 (Go.lst S G1 g2 e1)))), fun p5 y5 l5 h5 => ?_⟩
      have g6 := (S.go G5).refl.on (same_new (o := .lst (y5.map V.str)) h5)
      have G6 := G5.trans g6
      refine ⟨p4, p5, y4, y5, rfl, rfl, (Go.lst S G5 g6 upd_same), upd_same, by omega, fun p6 y6 l6 h6 => ?_⟩
      have g7 := (S.go G6).refl.on (same_new (o := .lst (y6.map V.str)) h6)
      have G7 := G6.trans g7
      refine ⟨_, p6, y6, rfl, rfl, upd_same, ⟨_, nl_tl⟩, by omega, fun z hz => k z _ (by omega) G7⟩
    refine ⟨_, rfl, rfl, _, rfl, ite2 (fun _ => ?_) (fun _ => ?_)⟩
    · skip
      refine ⟨_, rfl, _, rfl, d, a, ns, rfl, S.go G1, fun n2 H2 m0 m1 g2 => ?_⟩
      have G2 := G1.trans g2
      have pm : (0 : Int) < ((ms.map V.str).length : Int) := by
        rw [List.length_map]
        have : ms.length ≠ 0 := fun z => hms (List.length_eq_zero_iff.mp z)
        omega
      have h2m := mod_in n2 pm
      obtain ⟨ov, hov, eov⟩ := ix_in h2m.1 h2m.2
      obtain ⟨ox, hox, rfl⟩ := List.mem_map.mp hov
      have ol := h12 ox hox
      refine ⟨_, rfl, m, _, rfl, .inl (SqL.of (Go.lst S G1 g2 em)), _, _, rfl, rfl, pm, m, _, _, _, rfl, rfl, SqL.of (Go.lst S G1 g2 em), eov, ?_⟩
      refine ⟨⟨_, rfl⟩, _, rfl, _, rfl, _, rfl, q, _, rfl, SqL.of (Go.lst S G1 g2 e1), fun p1 y1 l1 h1 => ?_⟩
      have g3 := (S.go G2).refl.on (same_new (o := .lst (y1.map V.str)) h1)
      have G3 := G2.trans g3
      refine ⟨_, rfl, by show 1 ≤ sizeLine; omega, fun p2 h2 => ?_⟩
      have g4 := (S.go G3).refl.on (same_new (o := .lst [V.str ox]) h2)
      have G4 := G3.trans g4
      refine ⟨p1, p2, y1, [ox], rfl, rfl, (Go.lst S G3 g4 upd_same), upd_same, by rw [lens_one]; omega, fun p3 y3 l3 h3 => ?_⟩
      rw [lens_one] at l3
      have g5 := (S.go G4).refl.on (same_new (o := .lst (y3.map V.str)) h3)
      have G5 := G4.trans g5
      refine ⟨_, rfl, _, rfl, _, rfl, q, _, rfl, SqL.of (Go.lst S G4 g5 (Go.lst S G3 g4 (Go.lst S G2 g3 (Go.lst S G1 g2 e1)))), fun p4 y4 l4 h4 => ?_⟩
      have g6 := (S.go G5).refl.on (same_new (o := .lst (y4.map V.str)) h4)
      have G6 := G5.trans g6
      refine ⟨p3, p4, y3, y4, rfl, rfl, (Go.lst S G5 g6 upd_same), upd_same, by omega, fun p5 y5 l5 h5 => ?_⟩
      have g7 := (S.go G6).refl.on (same_new (o := .lst (y5.map V.str)) h5)
      have G7 := G6.trans g7
      refine ⟨_, p5, y5, rfl, rfl, upd_same, ⟨_, nl_tl⟩, by omega, fun z hz => k z _ (by omega) G7⟩
    refine ⟨_, rfl, d, a, ns, rfl, S.go G1, fun n2 H2 m0 m1 g2 => ?_⟩
    have G2 := G1.trans g2
    refine ⟨_, rfl, q, _, rfl, .inl (SqL.of (Go.lst S G1 g2 e1)), _, _, rfl, rfl, pw, ?_⟩
    have hto := mod_in n2 pw
    obtain ⟨tv, htv, etv⟩ := ix_in hto.1 hto.2
    obtain ⟨t, ht_, rfl⟩ := List.mem_map.mp htv
    have lt := lens_mem ht_
    refine ⟨_, rfl, _, rfl, q, _, _, _, rfl, rfl, SqL.of (Go.lst S G1 g2 e1), erv, by show 1 ≤ sizeLine; omega, fun p1 h1 => ?_⟩
    have g3 := (S.go G2).refl.on (same_new (o := .lst [V.str r]) h1)
    have G3 := G2.trans g3
    have h2k := mod_in (n / 1000) (n := 2) (by decide)
    refine ⟨_, rfl, _, _, rfl, rfl, ⟨by decide, by decide⟩, _, _, rfl, rfl, pos (by decide), .inl ⟨_, rfl, p1, _, r, rfl, rfl, upd_same, ⟨h2k.1, by omega⟩, fun p2 y2 l2 h2 => ?_⟩⟩
    have g4 := (S.go G3).refl.on (same_new (o := .lst (y2.map V.str)) h2)
    have G4 := G3.trans g4
    refine ⟨⟨_, rfl⟩, _, rfl, _, rfl, _, rfl, _, rfl, q, _, rfl, SqL.of (Go.lst S G3 g4 (Go.lst S G2 g3 (Go.lst S G1 g2 e1))), fun p3 y3 l3 h3 => ?_⟩
    have g5 := (S.go G4).refl.on (same_new (o := .lst (y3.map V.str)) h3)
    have G5 := G4.trans g5
    refine ⟨p2, p3, y2, y3, rfl, rfl, (Go.lst S G4 g5 upd_same), upd_same, by omega, fun p4 y4 l4 h4 => ?_⟩
    have g6 := (S.go G5).refl.on (same_new (o := .lst (y4.map V.str)) h4)
    have G6 := G5.trans g6
    refine ⟨_, rfl, _, rfl, _, _, rfl, rfl, _, rfl, q, _, rfl, SqL.of (Go.lst S G5 g6 (Go.lst S G4 g5 (Go.lst S G3 g4 (Go.lst S G2 g3 (Go.lst S G1 g2 e1))))), fun p5 y5 l5 h5 => ?_⟩
    have g7 := (S.go G6).refl.on (same_new (o := .lst (y5.map V.str)) h5)
    have G7 := G6.trans g7
    refine ⟨p4, p5, y4, y5, rfl, rfl, (Go.lst S G6 g7 upd_same), upd_same, by omega, fun p6 y6 l6 h6 => ?_⟩
    have g8 := (S.go G7).refl.on (same_new (o := .lst (y6.map V.str)) h6)
    have G8 := G7.trans g8
    refine ⟨_, rfl, _, rfl, q, _, _, _, rfl, rfl, SqL.of (Go.lst S G7 g8 (Go.lst S G6 g7 (Go.lst S G5 g6 (Go.lst S G4 g5 (Go.lst S G3 g4 (Go.lst S G2 g3 (Go.lst S G1 g2 e1))))))), etv, by show 1 ≤ sizeLine; omega, fun p7 h7 => ?_⟩
    have g9 := (S.go G8).refl.on (same_new (o := .lst [V.str t]) h7)
    have G9 := G8.trans g9
    refine ⟨p6, p7, y6, [t], rfl, rfl, (Go.lst S G8 g9 upd_same), upd_same, by rw [lens_one]; omega, fun p8 y8 l8 h8 => ?_⟩
    rw [lens_one] at l8
    have g10 := (S.go G9).refl.on (same_new (o := .lst (y8.map V.str)) h8)
    have G10 := G9.trans g10
    refine ⟨_, p8, y8, rfl, rfl, upd_same, ⟨_, nl_tl⟩, by omega, fun z hz => k z _ (by omega) G10⟩
end
end Fw

/-! ==== FwL9 ==== -/
set_option Elab.async false
set_option linter.all false
set_option maxRecDepth 100000
set_option maxHeartbeats 4000000
/-! walks of the law: its own reading of a word -/
namespace Fw
open PySem PySem.Spec PyProof.Rows L2 TL
section
variable {X : Cx}
/-- a list against the empty one, whatever it holds -/
def rNeE (K : PySem.W.Frag) : R2 := fun x y H Q => ∃ a b xs, x = .ref a ∧ y = .ref b ∧ SqL K H a xs ∧ H b = some (.lst []) ∧ Q (.bl (!xs.isEmpty)) H
def rEqE (K : PySem.W.Frag) : R2 := fun x y H Q => ∃ a b xs, x = .ref a ∧ y = .ref b ∧ SqL K H a xs ∧ H b = some (.lst []) ∧ Q (.bl xs.isEmpty) H
theorem op_neE (hu : X.A.units + 64 < cLine) : OpR X (compareOp .NotEq) (rNeE X.K) := by
  intro pins s σ H x y v u Q I rx ry h
  obtain ⟨a, b, xs, rfl, rfl, ha, hb, q⟩ := h
  cases xs with
  | nil => exact op_neD hu pins s σ H _ _ v u Q I rx ry ⟨_, _, .lst ha .nil, .lst (SqL.of hb) .nil, rfl, rfl, q⟩
  | cons z r =>
    cases (show v = Value.ref a from rx)
    cases (show u = Value.ref b from ry)
    obtain ⟨us, r1, p1, _⟩ := I.list ha
    obtain ⟨ws, r2, p2, _⟩ := I.list (SqL.of hb)
    cases r1 with
    | cons h1 h2 =>
      cases r2
      exact SeqAt.RcNeAt.lists_lengths p1.isList p2.isList (by simp) (by omega) X.prog X.w X.xe _ ⟨.bl _, H, I, rfl, q⟩
theorem op_eqE (hu : X.A.units + 64 < cLine) : OpR X (compareOp .Eq) (rEqE X.K) := by
  intro pins s σ H x y v u Q I rx ry h
  obtain ⟨a, b, xs, rfl, rfl, ha, hb, q⟩ := h
  cases xs with
  | nil => exact op_eqD hu pins s σ H _ _ v u Q I rx ry ⟨_, _, .lst ha .nil, .lst (SqL.of hb) .nil, rfl, rfl, q⟩
  | cons z r =>
    cases (show v = Value.ref a from rx)
    cases (show u = Value.ref b from ry)
    obtain ⟨us, r1, p1, _⟩ := I.list ha
    obtain ⟨ws, r2, p2, _⟩ := I.list (SqL.of hb)
    cases r1 with
    | cons h1 h2 =>
      cases r2
      exact SeqAt.RcAt.lists_lengths p1.isList p2.isList (by simp) (by omega) X.prog X.w X.xe _ ⟨.bl _, H, I, rfl, q⟩
end
section
variable {P : Program} {w : World} {K : PySem.W.Frag} {mg : Str → Option Value} {base : Heap}
theorem notin_abc (c : Nat) : (!decide (c ∈ tl (Str.ofString "abcdefghijklmnopqrstuvwxyz"))) = !isLow c := by rw [mem_low]
theorem notin_fig (c : Nat) : (!decide (c ∈ tl (Str.ofString "0123456789"))) = !isDig c := by rw [mem_dig]
/-- the signs that are none of f -/
def badF (l : List Nat) (f : Nat → Bool) (i : Nat) : Option V := l[i]?.bind fun c => if f c = true then none else some (V.str ⟨#[c]⟩)
theorem bad_empty (l : List Nat) (f : Nat → Bool) : ((List.range l.length).filterMap (badF l f)).isEmpty = l.all f := by
  have e : (List.range l.length).filterMap (badF l f) = l.filterMap fun c => if f c = true then none else some (V.str ⟨#[c]⟩) := range_get l _
  rw [e]
  clear e
  induction l with
  | nil => rfl
  | cons a r ih =>
    rw [List.filterMap_cons, List.all_cons]
    cases h : f a with
    | true =>
      rw [if_pos rfl, Bool.true_and]
      exact ih
    | false =>
      rw [if_neg Bool.false_ne_true] <;> rfl
theorem ne_not {b : Bool} (h : ¬ (!b) = true) : b = true := not_f h
theorem dash_tl : tl (Str.ofString "-") = [45] := by decide +kernel
abbrev nn_law_is_name : List Str := ["_law_word_here", "_law_sign"]
theorem sc_law_is_name : FnScope nn_law_is_name ["_law_word_here"] (defScope s_law_is_name) := ⟨rfl, rfl, rfl, by decide +kernel, rfl, by decide +kernel, by decide +kernel⟩
theorem ok_law_is_name (T : Tx K mg) : OkD P w K mg base CX0 1 ("_law_is_name", none) ["_law_word_here"] spIsName := by
  refine OkD.mk T.f_law_is_name sc_law_is_name (fun _ _ _ _ _ _ us hl => match us, hl with | [_], _ => rfl) (fun vs H Q E h => ?_) (fun cdv A outer s H vs Q E hr h => ?_)
  · obtain ⟨x, rfl, _⟩ := h
    rfl
  · obtain ⟨x, rfl, hl, k⟩ := h
    refine ⟨_, (pss_one (ps_ret (pe_and (pe_chain op_le op_le pe_int (pe_callB call_len_str (by rfl) T.b_len bv_len (pa_cons (pv 0) pa_nil)) pe_int) (pe_one (pe_cmpR (op_eqE hr.units) (pe_lc (g := gName 1) (own := [("_law_sign", 1)]) rfl sc_law_is_name.nd (pi_str (pv 0)) (blkOk_by (own := [("_law_sign", 1)]) (N := nn_law_is_name) (sc := defScope s_law_is_name) (by decide +kernel)) (fun _ _ _ _ _ => (pg_name (i := 1) sc_law_is_name.nd rfl (Or.inl rfl))) (fun _ _ _ _ _ => pts_one (pt_cmpR op_notIn_sign (pv 1) pe_str (by first | exact nomark _ | rfl))) (fun _ _ _ _ _ => (pv 1))) (pe_lst pa_nil) (by first | exact nomark _ | rfl)))))), ?_⟩
    have out : ∀ {c : Bool}, isName x = c → ∀ H', Same H H' → Q (.bl c) H' := fun {c} e H' s => by
      rw [← e]
      exact k H' s
    refine ⟨_, rfl, _, rfl, sz hl, _, _, rfl, rfl, ?_⟩
    refine ⟨_, rfl, ite2 (fun e1 => ?_) (fun e1 => ?_)⟩
    · refine ⟨_, _, rfl, rfl, _, rfl, ite2 (fun e2 => ?_) (fun e2 => ?_)⟩
      · refine ⟨_, rfl, x, rfl, fun D hD => ?_⟩
        refine lc_f walk_str (badF (tl x) isLow) (sz_lt ?_) hD (fun _ _ => trivial) (fun i v H1 H2 N N0 hi s1 hy kN kN0 => ?_) (fun H1 s1 eD => ?_)
        · exact hl
        · obtain ⟨rfl, c, hc, rfl⟩ := hy
          refine ⟨rfl, _, rfl, c, _, rfl, rfl, _, rfl, ?_⟩
          show if (!decide (c ∈ tl (Str.ofString "abcdefghijklmnopqrstuvwxyz"))) = true then _ else _
          rw [notin_abc]
          have hf : badF (tl x) isLow i = if isLow c = true then none else some (V.str ⟨#[c]⟩) := by
            unfold badF
            rw [sign_at hc] <;> rfl
          cases hb : isLow c with
          | true =>
            rw [hb, if_pos rfl] at hf
            exact iteF (kN0 _ hf (Same.refl _))
          | false =>
            rw [hb, if_neg Bool.false_ne_true] at hf
            exact iteT ⟨_, rfl, kN _ _ hf (Same.refl _)⟩
        · refine ⟨Nat.zero_le _, fun q hq => ?_⟩
          have s2 := same_new (o := .lst []) hq
          refine ⟨D, q, _, rfl, rfl, s2.seq (SqL.of eD), upd_same, ?_⟩
          have el : x.cps.size = (tl x).length := by simp [tl]
          rw [el, bad_empty]
          refine out ?_ _ (s1.trans s2)
          rw [isName_eq, e1, e2, Bool.true_and, Bool.true_and]
      · refine out ?_ H (Same.refl H)
        rw [isName_eq, ne_t e2, Bool.false_and, Bool.and_false]
    · refine ⟨false, rfl, iteF ?_⟩
      refine out ?_ H (Same.refl H)
      rw [isName_eq, ne_t e1, Bool.false_and]
abbrev nn_law_number : List Str := ["_law_word_here", "_law_figures", "_law_sign"]
theorem sc_law_number : FnScope nn_law_number ["_law_word_here"] (defScope s_law_number) := ⟨rfl, rfl, rfl, by decide +kernel, rfl, by decide +kernel, by decide +kernel⟩
theorem ok_law_number (T : Tx K mg) : OkD P w K mg base CX0 1 ("_law_number", none) ["_law_word_here"] spNumberIn := by
  refine OkD.mk T.f_law_number sc_law_number (fun _ _ _ _ _ _ us hl => match us, hl with | [_], _ => rfl) (fun vs H Q E h => ?_) (fun cdv A outer s H vs Q E hr h => ?_)
  · obtain ⟨x, rfl, _⟩ := h
    rfl
  · obtain ⟨x, rfl, hl, k⟩ := h
    refine ⟨_, (pss_cons (ps_set (i := 1) sc_law_number.nd rfl (Or.inl rfl) (pe_slice sl_str (pv 0) (po_some (pe_callTy call_int1 (by rfl) T.b_int bv_int (pa_cons (pe_cmpR op_eq (pe_slice sl_str (pv 0) po_none (po_some pe_int)) pe_str (by first | exact nomark _ | rfl)) pa_nil))) po_none))
      (pss_cons (ps_if (PW.pt (pw_or (pt_cmpR (op_neE hr.units) (pe_lc (g := gName 2) (own := [("_law_sign", 2)]) rfl sc_law_number.nd (pi_str (pv 1)) (blkOk_by (own := [("_law_sign", 2)]) (N := nn_law_number) (sc := defScope s_law_number) (by decide +kernel)) (fun _ _ _ _ _ => (pg_name (i := 2) sc_law_number.nd rfl (Or.inl rfl))) (fun _ _ _ _ _ => pts_one (pt_cmpR op_notIn_sign (pv 2) pe_str (by first | exact nomark _ | rfl))) (fun _ _ _ _ _ => (pv 2))) (pe_lst pa_nil) (by first | exact nomark _ | rfl)) (pw_or1 (pt_not (pt_chain op_le op_le pe_int (pe_callB call_len_str (by rfl) T.b_len bv_len (pa_cons (pv 1) pa_nil)) pe_int)))))
        (pss_one (ps_ret pe_non))
        pss_nil)
      (pss_one (ps_ret (pe_ifExp (PW.pt (pw_and (pt_cmpR op_eq (pe_ix ix_str (pv 1) pe_int (fun _ _ => rfl)) pe_str (by first | exact nomark _ | rfl)) (pw_and1 (pt_cmpR op_ne (pv 0) pe_str (by first | exact nomark _ | rfl))))) pe_non (pe_callTy call_int_str (by rfl) T.b_int bv_int (pa_cons (pv 0) pa_nil))))))), ?_⟩
    have out : numOf x = none → ∀ H', Same H H' → Q .non H' := fun e H' s => by
      have z := k H' s
      rw [e] at z
      exact z
    refine ⟨_, rfl, _, rfl, _, rfl, x, rfl, sz hl, rfl, .inr ⟨_, rfl, _, rfl, x, rfl, sz hl, ?_⟩⟩
    have hF : tl (cutS x (some (if decide (V.str (cutS x none (some 1)) = V.str (Str.ofString "-")) = true then 1 else 0)) none) = figL (tl x) := by
      rw [strV_eq, show (1 : Int) = ((1 : Nat) : Int) from rfl, cutS_to, dash_tl]
      by_cases hd : ∃ r, tl x = 45 :: r
      · obtain ⟨r, er⟩ := hd
        rw [er, decide_eq_true (show List.take 1 (45 :: r) = [45] from rfl), if_pos rfl, cutS_from, er] <;> rfl
      · have hn : ∀ r, tl x ≠ 45 :: r := fun r e => hd ⟨r, e⟩
        have h2 : ¬ List.take 1 (tl x) = [45] := fun e => by
          cases z : tl x with
          | nil =>
            rw [z] at e
            cases e
          | cons a r =>
            rw [z] at e
            have e3 : [a] = [45] := e
            injection e3 with e4
            exact hn r (by rw [z, e4])
        rw [decide_eq_false h2, if_neg Bool.false_ne_true, show (0 : Int) = ((0 : Nat) : Int) from rfl, cutS_from, List.drop_zero, figL_pos hn]
    have lF : (cutS x (some (if decide (V.str (cutS x none (some 1)) = V.str (Str.ofString "-")) = true then 1 else 0)) none).length ≤ 1000000 := Nat.le_trans (cutS_length x _ _) hl
    generalize cutS x (some (if decide (V.str (cutS x none (some 1)) = V.str (Str.ofString "-")) = true then 1 else 0)) none = F at hF lF ⊢
    have fig : okNum x = ((decide ((1 : Int) ≤ (F.length : Int)) && (decide ((F.length : Int) ≤ 10) && (tl F).all isDig)) && (decide ((tl F).head? ≠ some 48) || decide (tl x = [48]))) := by
      unfold okNum
      rw [← hF, Bool.and_assoc (decide (1 ≤ (tl F).length))]
      congr 1
      congr 1
      · exact decide_eq_decide.mpr (by rw [len_tl]; omega)
      · congr 1
        exact decide_eq_decide.mpr (by rw [len_tl]; omega)
    refine ⟨_, rfl, F, rfl, fun D hD => ?_⟩
    refine lc_f walk_str (badF (tl F) isDig) (sz_lt ?_) hD (fun _ _ => trivial) (fun i v H1 H2 N N0 hi s1 hy kN kN0 => ?_) (fun H1 s1 eD => ?_)
    · exact lF
    · obtain ⟨rfl, c, hc, rfl⟩ := hy
      refine ⟨rfl, _, rfl, c, _, rfl, rfl, _, rfl, ?_⟩
      show if (!decide (c ∈ tl (Str.ofString "0123456789"))) = true then _ else _
      rw [notin_fig]
      have hf : badF (tl F) isDig i = if isDig c = true then none else some (V.str ⟨#[c]⟩) := by
        unfold badF
        rw [sign_at hc] <;> rfl
      cases hb : isDig c with
      | true =>
        rw [hb, if_pos rfl] at hf
        exact iteF (kN0 _ hf (Same.refl _))
      | false =>
        rw [hb, if_neg Bool.false_ne_true] at hf
        exact iteT ⟨_, rfl, kN _ _ hf (Same.refl _)⟩
    · refine ⟨Nat.zero_le _, fun q hq => ?_⟩
      have s2 := s1.trans (same_new (o := .lst []) hq)
      refine ⟨D, q, _, rfl, rfl, (same_new hq).seq (SqL.of eD), upd_same, _, rfl, ?_⟩
      have el : F.cps.size = (tl F).length := by simp [tl]
      rw [el, bad_empty]
      refine ite2 (fun e3 => ?_) (fun e3 => ?_)
      · refine out (num_none ?_) _ s2
        rw [fig, not_t e3, Bool.and_false, Bool.and_false, Bool.false_and]
      · refine ⟨_, rfl, _, rfl, sz lF, _, _, rfl, rfl, _, rfl, ?_⟩
        refine ite2 (fun e1 => ?_) (fun e1 => ?_)
        · refine ⟨_, _, rfl, rfl, _, rfl, ?_⟩
          refine ite2 (fun e2 => ?_) (fun e2 => ?_)
          · refine out (num_none ?_) _ s2
            rw [fig, not_t e2, Bool.false_and, Bool.and_false, Bool.false_and]
          · have h1 : 1 ≤ F.length := by
              have z := of_decide_eq_true e1
              omega
            obtain ⟨c, r, er⟩ : ∃ c r, tl F = c :: r := by
              cases z : tl F with
              | nil =>
                rw [len_tl, z] at h1
                exact absurd h1 (by decide)
              | cons c r => exact ⟨c, r, rfl⟩
            have ok0 : okNum x = (decide ((tl F).head? ≠ some 48) || decide (tl x = [48])) := by
              rw [fig, e1, not_f e2, not_f e3, Bool.true_and, Bool.true_and, Bool.true_and]
            have last : okNum x = true → ∀ H', Same H H' → ∃ v, (some (some (V.str x)) : Option (Option V)) = some (some v) ∧ ∃ a n, [v] = [V.str a] ∧ intText? a = some n ∧ a.length ≤ 640 ∧ Q (V.int n) H' := fun ok H' s => by
              obtain ⟨n, n1, n2, n3, n4⟩ := num_back ok
              have z := k H' s
              rw [n1] at z
              exact ⟨_, rfl, x, n, rfl, n2, Nat.le_trans n4 (by decide), z⟩
            refine ⟨_, rfl, F, 0, c, rfl, rfl, sz lF, ?_, rfl, _, rfl, ?_⟩
            · show atI (tl F) ((0 : Nat) : Int) = some c
              rw [er]
              exact atI_nat rfl
            · refine ite2 (fun e4 => ?_) (fun e4 => ?_)
              · have hc : c = 48 := by
                  rw [strV_eq, zero_tl] at e4
                  have z : [c] = [48] := of_decide_eq_true e4
                  injection z
                refine ⟨_, rfl, rfl, _, rfl, ?_⟩
                refine ite2 (fun e5 => ?_) (fun e5 => ?_)
                · refine out (num_none ?_) _ s2
                  rw [strV_eq, zero_tl] at e5
                  rw [ok0, not_t e5, er, hc]
                  rfl
                · refine last ?_ _ s2
                  rw [strV_eq, zero_tl] at e5
                  rw [ok0, ne_not e5, Bool.or_true]
              · refine iteF (last ?_ _ s2)
                rw [strV_eq, zero_tl] at e4
                have hc : ¬ c = 48 := fun z => e4 (by rw [z]; rfl)
                rw [ok0, er]
                have z : decide ((c :: r).head? ≠ some 48) = true := decide_eq_true fun q => hc (Option.some.inj q)
                rw [z, Bool.true_or]
        · refine ⟨false, rfl, ?_⟩
          refine out (num_none ?_) _ s2
          rw [fig, ne_t e1, Bool.false_and, Bool.false_and]
end
end Fw

/-! ==== FwL10 ==== -/
set_option Elab.async false
set_option linter.all false
set_option maxRecDepth 100000
set_option maxHeartbeats 4000000
/-! walks of the law: its own reading of a row -/
namespace Fw
open PySem PySem.Spec PyProof.Rows L2 TL
section
variable {P : Program} {w : World} {K : PySem.W.Frag} {mg : Str → Option Value} {base : Heap}
theorem rowIn_one (cs : List Cue) (v : Str) : rowIn cs [v] = none := by
  rw [rowIn_cons, cueIn_not2 (by show (1 : Nat) ≠ 2; decide), moveIn_not4 (by show (1 : Nat) ≠ 4; decide), thenIn_not3 (by show (1 : Nat) ≠ 3; decide)]
  split
  · rfl
  · split
    · rfl
    · split <;> rfl
theorem cueIn_no {cs : List Cue} {v n : Str} {r : List Str} (h : isName n = false) : cueIn cs (v :: n :: r) = none := by
  cases r with
  | nil =>
    rw [cueIn_two, h]
    rfl
  | cons a b => exact cueIn_not2 (by simp)
theorem moveIn_no {cs : List Cue} {v n : Str} {r : List Str} (h : isName n = false ∨ ∃ x ∈ r, numOf x = none) : moveIn cs (v :: n :: r) = none := by
  by_cases h4 : (v :: n :: r).length = 4
  · obtain ⟨a, b, g, t, e⟩ := four_of h4
    have e1 : n = b := by
      injection e with _ e
      injection e
    have e2 : r = [g, t] := by
      injection e with _ e
      injection e
    subst e2
    cases hc : cs.getLast? with
    | none =>
      have ec := List.getLast?_eq_none_iff.mp hc
      subst ec
      exact moveIn_nil _
    | some c =>
      have bad : mvOk n (numOf g) (numOf t) = false := by
        unfold mvOk
        rcases h with h | ⟨x, hx, h⟩
        · rw [h, Bool.false_and]
        · simp only [List.mem_cons, List.not_mem_nil, or_false] at hx
          rcases hx with rfl | rfl
          · rw [h]
            show (isName n && (false && _)) = false
            rw [Bool.false_and, Bool.and_false]
          · rw [h]
            show (isName n && (_ && false)) = false
            rw [Bool.and_false, Bool.and_false]
      rw [moveIn_four hc, bad]
      rfl
  · exact moveIn_not4 h4
theorem thenIn_no {cs : List Cue} {v n : Str} {r : List Str} (h : isName n = false ∨ ∃ x ∈ r, numOf x = none) : thenIn cs (v :: n :: r) = none := by
  by_cases h3 : (v :: n :: r).length = 3
  · obtain ⟨a, b, t, e⟩ := three_of h3
    have e2 : r = [t] := by
      injection e with _ e
      injection e
    subst e2
    cases hc : cs.getLast? with
    | none =>
      have ec := List.getLast?_eq_none_iff.mp hc
      subst ec
      exact thenIn_nil _
    | some c =>
      have bad : foOk n (numOf t) = false := by
        unfold foOk
        rcases h with h | ⟨x, hx, h⟩
        · rw [h, Bool.false_and]
        · rw [List.mem_singleton] at hx
          subst hx
          rw [h]
          show (isName n && false) = false
          rw [Bool.and_false]
      rw [thenIn_three hc, bad, Bool.false_and, Bool.and_false]
      rfl
  · exact thenIn_not3 h3
theorem rowIn_noname {cs : List Cue} {v n : Str} {r : List Str} (h : isName n = false) : rowIn cs (v :: n :: r) = none := by
  rw [rowIn_cons, cueIn_no h, moveIn_no (.inl h), thenIn_no (.inl h)]
  split
  · rfl
  · split
    · rfl
    · split <;> rfl
theorem rowIn_nonum {cs : List Cue} {v n : Str} {r : List Str} (h : ∃ x ∈ r, numOf x = none) : rowIn cs (v :: n :: r) = none := by
  have h2 : cueIn cs (v :: n :: r) = none := by
    obtain ⟨x, hx, _⟩ := h
    cases r with
    | nil => cases hx
    | cons a b => exact cueIn_not2 (by simp)
  rw [rowIn_cons, h2, moveIn_no (.inr h), thenIn_no (.inr h)]
  split
  · rfl
  · split
    · rfl
    · split <;> rfl
theorem inV_none (ns : List (Option Int)) : inV .non (ns.map optV) = ns.any Option.isNone := by
  unfold inV
  rw [List.any_map]
  congr 1
  funext o
  cases o <;> rfl
theorem flat_opt (ns : List (Option Int)) : (ns.map optV).all flatV = true := by
  rw [List.all_map]
  refine List.all_eq_true.mpr fun o _ => ?_
  cases o <;> rfl
theorem nums_all (l : List Str) : (List.range l.length).filterMap (fun j => l[j]?.map fun x => optV (numOf x)) = (l.map numOf).map optV := by
  rw [range_map, List.map_map] <;> rfl
theorem ws_cases {ws : List Str} (h : ws ≠ []) : (∃ v, ws = [v]) ∨ ∃ v n r, ws = v :: n :: r := by
  cases ws with
  | nil => exact absurd rfl h
  | cons v t =>
    cases t with
    | nil => exact .inl ⟨v, rfl⟩
    | cons n r => exact .inr ⟨v, n, r, rfl⟩
theorem mt_ne : ¬ sMove = sThen := by decide +kernel
theorem paired_empty {α : Type} {F : Addr → α → Prop} {ts : List Addr} {ms : List α} (h : Paired F ts ms) : (ts.map V.ref).isEmpty = ms.isEmpty := by
  cases h <;> rfl
def spTakesL (K : PySem.W.Frag) : Sp := fun vs H Q _ => ∃ (B : Hp) (l wl : Addr) (es : List Trip) (cs : List Cue) (ws : List Str), vs = [.ref l, .ref wl] ∧ Own B H l es cs ∧ SoFar cs ∧
  SqL K H wl (ws.map V.str) ∧ (∀ x ∈ ws, x.length ≤ 1000000) ∧ ws ≠ [] ∧ ws.length ≤ 1000000 ∧
  (∀ H', Same B H' → rowIn cs ws = none → Q (.bl false) H') ∧ (∀ H' es' cs', Own B H' l es' cs' → rowIn cs ws = some cs' → Q (.bl true) H')
abbrev nn_law_takes : List Str := ["_law_cues_here", "_law_words", "_law_numbers", "_law_known", "_law_moves_here", "_law_followers_here", "_law_word_here", "_law_cue", "_law_move"]
theorem sc_law_takes : FnScope nn_law_takes ["_law_cues_here", "_law_words"] (defScope s_law_takes) := ⟨rfl, rfl, rfl, by decide +kernel, rfl, by decide +kernel, by decide +kernel⟩
theorem ok_law_takes (T : Tx K mg) : OkD P w K mg base CX0 2 ("_law_takes", none) ["_law_cues_here", "_law_words"] (spTakesL K) := by
  obtain ⟨fd_law_is_name, G_law_is_name, b_law_is_name, k_law_is_name⟩ := ok_law_is_name (P := P) (w := w) (base := base) T
  obtain ⟨fd_law_number, G_law_number, b_law_number, k_law_number⟩ := ok_law_number (P := P) (w := w) (base := base) T
  refine OkD.mk T.f_law_takes sc_law_takes (fun _ _ _ _ _ _ us hl => match us, hl with | [_, _], _ => rfl) (fun vs H Q E h => ?_) (fun cdv A outer s H vs Q E hr h => ?_)
  · obtain ⟨B, l, wl, es, cs, ws, rfl, _⟩ := h
    rfl
  · obtain ⟨B, l, wl, es, cs, ws, rfl, O, S, hw, hlen, hne, hwl, kF, kT⟩ := h
    have hr_law_is_name : Room 1 _ := hr.mono (by decide)
    have hr_law_number : Room 1 _ := hr.mono (by decide)
    refine ⟨_, (pss_cons (ps_setLc (i := 2) (g := gName 6) (own := [("_law_word_here", 6)]) rfl sc_law_takes.nd rfl rfl (sw_true rfl rfl rfl (by decide +kernel)) (pi_list (pe_slice sl_list (pv 1) (po_some pe_int) po_none)) (blkOk_by (own := [("_law_word_here", 6)]) (N := nn_law_takes) (sc := defScope s_law_takes) (by decide +kernel)) (fun _ _ _ _ _ => (pg_name (i := 6) sc_law_takes.nd rfl (Or.inl rfl))) (fun _ _ _ _ _ => pts_nil) (fun _ _ _ _ _ => (pe_call G_law_number hr_law_number (by rfl) T.g_law_number k_law_number b_law_number .nil pass0 (pa_cons (pv 6) pa_nil))))
      (pss_cons (ps_if (PW.pt (pw_or (pt_cmpR op_lt (pe_callB call_len_seq (by rfl) T.b_len bv_len (pa_cons (pv 1) pa_nil)) pe_int (by first | exact nomark _ | rfl)) (pw_or (pt_not (pt_val (pe_call G_law_is_name hr_law_is_name (by rfl) T.g_law_is_name k_law_is_name b_law_is_name .nil pass0 (pa_cons (pe_ix ix_list (pv 1) pe_int (fun _ _ => rfl)) pa_nil)))) (pw_or1 (pt_cmpR op_in_seq pe_non (pv 2) (by first | exact nomark _ | rfl))))))
        (pss_one (ps_ret pe_bl))
        pss_nil)
      (pss_cons (ps_if (pt_cmpR op_eq (pe_ix ix_list (pv 1) pe_int (fun _ _ => rfl)) pe_str (by first | exact nomark _ | rfl))
        (pss_cons (ps_setLc (i := 3) (g := gName 7) (own := [("_law_cue", 7)]) rfl sc_law_takes.nd rfl rfl (sw_true rfl rfl rfl (by decide +kernel)) (pi_list (pv 0)) (blkOk_by (own := [("_law_cue", 7)]) (N := nn_law_takes) (sc := defScope s_law_takes) (by decide +kernel)) (fun _ _ _ _ _ => (pg_name (i := 7) sc_law_takes.nd rfl (Or.inl rfl))) (fun _ _ _ _ _ => pts_nil) (fun _ _ _ _ _ => (pe_ix (r := rIxT K) ix_tup (pv 7) pe_int (fun _ _ => rfl))))
          (pss_cons (ps_if (PW.pt (pw_or (pt_cmpR op_ne (pe_callB call_len_seq (by rfl) T.b_len bv_len (pa_cons (pv 1) pa_nil)) pe_int (by first | exact nomark _ | rfl)) (pw_or (pt_cmpR op_in_seq (pe_ix ix_list (pv 1) pe_int (fun _ _ => rfl)) (pv 3) (by first | exact nomark _ | rfl)) (pw_or (pt_cmpR op_eq (pe_callB call_len_seq (by rfl) T.b_len bv_len (pa_cons (pv 0) pa_nil)) pe_int (by first | exact nomark _ | rfl)) (pw_or1 (PW.pt (pw_and (pt_cmpR (op_neE hr.units) (pv 0) (pe_lst pa_nil) (by first | exact nomark _ | rfl)) (pw_and1 (pt_cmpR (op_eqE hr.units) (pe_ix ix_tup (pe_ix ix_list (pv 0) (pe_un un_neg pe_int) (fun _ _ => rfl)) pe_int (fun _ _ => rfl)) (pe_lst pa_nil) (by first | exact nomark _ | rfl))))))))))
            (pss_one (ps_ret pe_bl))
            pss_nil)
          (pss_cons (ps_expr (pe_bm PySem.F.plainAttrs_list PySem.F.slot_list_append PySem.F.type_list_append mt_append (pv 0) (pa_cons (pe_tup (pa_cons (pe_ix ix_list (pv 1) pe_int (fun _ _ => rfl)) (pa_cons (pe_lst pa_nil) (pa_cons (pe_lst pa_nil) pa_nil)))) pa_nil)))
          (pss_one (ps_ret pe_bl)))))
        pss_nil)
      (pss_cons (ps_if (pt_cmpR (op_eqE hr.units) (pv 0) (pe_lst pa_nil) (by first | exact nomark _ | rfl))
        (pss_one (ps_ret pe_bl))
        pss_nil)
      (pss_cons (ps_asg (pe_slice sl_tup (pe_ix ix_list (pv 0) (pe_un un_neg pe_int) (fun _ _ => rfl)) (po_some pe_int) po_none) (pg_tup rfl (pgs_cons (pg_name (i := 4) sc_law_takes.nd rfl (Or.inl rfl)) (pgs_cons (pg_name (i := 5) sc_law_takes.nd rfl (Or.inl rfl)) pgs_nil))))
      (pss_cons (ps_if (PW.pt (pw_and (pt_cmpR op_eq (pe_ix ix_list (pv 1) pe_int (fun _ _ => rfl)) pe_str (by first | exact nomark _ | rfl)) (pw_and1 (pt_cmpR op_eq (pe_callB call_len_seq (by rfl) T.b_len bv_len (pa_cons (pv 1) pa_nil)) pe_int (by first | exact nomark _ | rfl)))))
        (pss_cons (ps_if (PW.pt (pw_or (pt_cmpR (op_neE hr.units) (pv 5) (pe_lst pa_nil) (by first | exact nomark _ | rfl)) (pw_or (pt_cmpR op_eq (pe_callB call_len_seq (by rfl) T.b_len bv_len (pa_cons (pv 4) pa_nil)) pe_int (by first | exact nomark _ | rfl)) (pw_or1 (pt_cmpR op_in_seq (pe_ix ix_list (pv 1) pe_int (fun _ _ => rfl)) (pe_lc (g := gName 8) (own := [("_law_move", 8)]) rfl sc_law_takes.nd (pi_list (pv 4)) (blkOk_by (own := [("_law_move", 8)]) (N := nn_law_takes) (sc := defScope s_law_takes) (by decide +kernel)) (fun _ _ _ _ _ => (pg_name (i := 8) sc_law_takes.nd rfl (Or.inl rfl))) (fun _ _ _ _ _ => pts_nil) (fun _ _ _ _ _ => (pe_ix (r := rIxT K) ix_tup (pv 8) pe_int (fun _ _ => rfl)))) (by first | exact nomark _ | rfl))))))
            (pss_one (ps_ret pe_bl))
            pss_nil)
          (pss_cons (ps_expr (pe_bm PySem.F.plainAttrs_list PySem.F.slot_list_append PySem.F.type_list_append mt_append (pv 4) (pa_cons (pe_tup (pa_cons (pe_ix ix_list (pv 1) pe_int (fun _ _ => rfl)) (pa_cons (pe_ix ix_list (pv 2) pe_int (fun _ _ => rfl)) (pa_cons (pe_ix ix_list (pv 2) pe_int (fun _ _ => rfl)) pa_nil)))) pa_nil)))
          (pss_one (ps_ret (pe_and (pe_chain op_le op_le (pe_op op_sub pe_int (pe_op op_pow9 pe_int pe_int)) (pe_ix ix_list (pv 2) pe_int (fun _ _ => rfl)) (pe_op op_pow9 pe_int pe_int)) (pe_one (pe_chain op_le op_le pe_int (pe_ix ix_list (pv 2) pe_int (fun _ _ => rfl)) pe_int)))))))
        pss_nil)
      (pss_cons (ps_if (PW.pt (pw_and (pt_cmpR op_eq (pe_ix ix_list (pv 1) pe_int (fun _ _ => rfl)) pe_str (by first | exact nomark _ | rfl)) (pw_and (pt_cmpR op_eq (pe_callB call_len_seq (by rfl) T.b_len bv_len (pa_cons (pv 1) pa_nil)) pe_int (by first | exact nomark _ | rfl)) (pw_and (pt_cmpR (op_neE hr.units) (pv 4) (pe_lst pa_nil) (by first | exact nomark _ | rfl)) (pw_and1 (pt_cmpR op_lt (pe_callB call_len_seq (by rfl) T.b_len bv_len (pa_cons (pv 5) pa_nil)) pe_int (by first | exact nomark _ | rfl)))))))
        (pss_cons (ps_expr (pe_bm PySem.F.plainAttrs_list PySem.F.slot_list_append PySem.F.type_list_append mt_append (pv 5) (pa_cons (pe_tup (pa_cons (pe_ix ix_list (pv 1) pe_int (fun _ _ => rfl)) (pa_cons (pe_ix ix_list (pv 2) pe_int (fun _ _ => rfl)) pa_nil))) pa_nil)))
          (pss_one (ps_ret (pe_chain op_le op_le pe_int (pe_ix ix_list (pv 2) pe_int (fun _ _ => rfl)) pe_int))))
        pss_nil)
      (pss_one (ps_ret pe_bl))))))))), ?_⟩
    refine ⟨_, rfl, _, rfl, wl, _, rfl, hw, fun p hp => ?_⟩
    have ecut : cutV (ws.map V.str) (some 2) none = (ws.drop 2).map V.str := by rw [show (2 : Int) = ((2 : Nat) : Int) from rfl, cutV_from, List.map_drop]
    rw [ecut]
    have s0 := same_new (o := .lst ((ws.drop 2).map V.str)) hp
    refine ⟨p, rfl, ⟨_, SqL.of upd_same⟩, fun D hD => ?_⟩
    have ld : (ws.drop 2).length ≤ 1000000 := by
      rw [List.length_drop]
      omega
    refine lc_f (walk_list (xs := (ws.drop 2).map V.str)) (fun j => (ws.drop 2)[j]?.map fun x => optV (numOf x)) (by rw [List.length_map]; exact sz_lt ld) hD (fun H2 s2 => s2.seq (SqL.of upd_same)) (fun j x H2 H3 N N0 hj s2 hy kN _ => ?_) (fun H1 s1' eD => ?_)
    · obtain ⟨rfl, hx⟩ := hy
      rw [List.getElem?_map] at hx
      obtain ⟨u, hu, rfl⟩ := Option.map_eq_some_iff.mp hx
      refine ⟨rfl, yes_of ?_⟩
      refine ⟨_, rfl, u, rfl, hlen u (List.mem_of_mem_drop (List.mem_of_getElem? hu)), fun H4 s4 => kN _ _ ?_ s4⟩
      rw [hu]
      rfl
    have s1 : Same H H1 := s0.trans s1'
    rw [List.length_map, nums_all] at eD
    have hw1 := s1.seq hw
    refine ⟨_, rfl, wl, _, rfl, .inl hw1, _, _, rfl, rfl, _, rfl, ?_⟩
    rcases ws_cases hne with ⟨v, rfl⟩ | ⟨v, n, r, rfl⟩
    · exact iteT (kF H1 (O.same.trans s1) (rowIn_one cs v))
    · skip
      refine iteD (by rw [List.length_map, List.length_cons, List.length_cons]; omega) ?_
      refine ⟨_, rfl, wl, _, 1, .str n, rfl, rfl, hw1, atI_nat (j := 1) rfl, n, rfl, hlen n (by simp), fun H2 s2 => ⟨_, rfl, ?_⟩⟩
      have s12 := s1.trans s2
      cases e1 : isName n with
      | false => exact iteT (kF H2 (O.same.trans s12) (rowIn_noname e1))
      | true =>
        refine iteF ?_
        have eD2 : H2 D = some (.lst ((r.map numOf).map optV)) := s2 _ _ eD
        refine ⟨_, rfl, D, _, rfl, .inl (SqL.of eD2), rfl, flat_opt _, _, rfl, ?_⟩
        show if inV V.non ((r.map numOf).map optV) = true then _ else _
        rw [inV_none]
        cases hn : (r.map numOf).any Option.isNone with
        | true =>
          refine iteT (kF H2 (O.same.trans s12) (rowIn_nonum ?_))
          obtain ⟨o, ho, h1⟩ := List.any_eq_true.mp hn
          obtain ⟨x, hx, rfl⟩ := List.mem_map.mp ho
          exact ⟨x, hx, by
            cases z : numOf x with
            | none => rfl
            | some i =>
              rw [z] at h1
              cases h1⟩
        | false =>
          refine iteF ?_
          have some_of : ∀ x ∈ r, ∃ i, numOf x = some i := fun x hx => by
            cases z : numOf x with
            | some i => exact ⟨i, rfl⟩
            | none =>
              have : (r.map numOf).any Option.isNone = true := List.any_eq_true.mpr ⟨none, List.mem_map.mpr ⟨x, hx, z⟩, rfl⟩
              rw [hn] at this
              cases this
          rw [rowIn_cons] at kF kT
          have hw2 := s12.seq hw
          refine ⟨_, rfl, wl, _, 0, .str v, rfl, rfl, hw2, atI_nat (j := 0) rfl, rfl, _, rfl, ?_⟩
          rw [strV_dec]
          have C2 := O.at_.same s12
          have len := C2.2.length
          have l12 := S.len
          have em : es.map (fun e => V.ref e.1) = (es.map (·.1)).map V.ref := by rw [List.map_map] <;> rfl
          by_cases hv : v = sCue
          · rw [if_pos hv] at kF kT
            rw [decide_eq_true hv]
            refine iteT ?_
            -- the names so far
            refine ⟨_, rfl, l, rfl, ⟨_, SqL.of C2.1⟩, fun D2 hD2 => ?_⟩
            refine lc_first (by rw [← em]; exact SqL.of C2.1) C2.firsts (by rw [List.length_map, len]; omega) hD2 (by show 7 < 9; decide) fun H3 s3 eD3 => ?_
            have s13 := s12.trans s3
            have C3 := O.at_.same s13
            refine ⟨_, rfl, wl, _, rfl, .inl (s13.seq hw), rfl, _, rfl, ?_⟩
            rw [show V.int 2 = V.int ((2 : Nat) : Int) from rfl, len_dec]
            cases r with
            | cons a b =>
              rw [decide_eq_false (show ¬ (v :: n :: a :: b).length = 2 by simp)]
              exact iteT (kF H3 (O.same.trans s13) (cueIn_not2 (by simp)))
            | nil =>
              rw [cueIn_two, e1] at kF kT
              refine iteF ?_
              refine ⟨_, rfl, wl, _, 1, .str n, rfl, rfl, s13.seq hw, atI_nat (j := 1) rfl, _, rfl, D2, _, rfl, .inl (SqL.of eD3), rfl, flat_strs _, _, rfl, ?_⟩
              show if inV (V.str n) ((cs.map (·.name)).map V.str) = true then _ else _
              rw [inV_strs]
              by_cases hm : n ∈ cs.map (·.name)
              · rw [decide_eq_true hm]
                refine iteT (kF H3 (O.same.trans s13) ?_)
                rw [decide_eq_false (show ¬ n ∉ cs.map (·.name) from fun z => z hm), Bool.and_false, Bool.and_false] <;> rfl
              · rw [decide_eq_false hm]
                refine iteF ?_
                refine ⟨_, rfl, l, _, rfl, .inl (SqL.of C3.1), rfl, _, rfl, ?_⟩
                rw [show V.int 12 = V.int ((12 : Nat) : Int) from rfl, len_decV, List.length_map, C3.2.length]
                by_cases h12 : cs.length = 12
                · rw [decide_eq_true h12]
                  refine iteT (kF H3 (O.same.trans s13) ?_)
                  rw [decide_eq_false (show ¬ cs.length ≠ 12 from fun z => z h12), Bool.false_and, Bool.and_false] <;> rfl
                · rw [decide_eq_false h12]
                  refine iteF ?_
                  -- the last one wants a move
                  refine ⟨_, rfl, Nat.zero_le _, fun q hq => ?_⟩
                  have s4 := same_new (o := .lst []) hq
                  have C4 := C3.same s4
                  refine ⟨l, q, _, rfl, rfl, SqL.of C4.1, upd_same, _, rfl, ?_⟩
                  cases e : cs.getLast? with
                  | none =>
                    have ec := List.getLast?_eq_none_iff.mp e
                    subst ec
                    have ee : es = [] := List.length_eq_zero_iff.mp (by rw [len] <;> rfl)
                    subst ee
                    refine iteF (iteF ?_)
                    have s14 := s13.trans s4
                    have nl : lastOpen [] = false := rfl
                    have hl := S.len
                    have C5 := O.at_.same s14
                    refine ⟨_, rfl, .inl ⟨rfl, _, SqL.of C5.1⟩, _, rfl, wl, _, 1, .str n, rfl, rfl, Same.seq s14 hw, atI_nat (j := 1) rfl, ?_⟩
                    refine ⟨Nat.zero_le _, fun q1 hq1 => ⟨Nat.zero_le _, fun q2 hq2 => ⟨(by show 3 ≤ sizeLine; decide), fun t ht => ?_⟩⟩⟩
                    obtain ⟨n12, hq2'⟩ := fresh2r hq1 hq2
                    have u4 := same_new (o := .lst []) hq1
                    have u5 := same_new (o := .lst []) hq2
                    have u6 := same_new (o := .tup [.str n, .ref q1, .ref q2]) ht
                    have u46 := (u4.trans u5).trans u6
                    refine ⟨l, _, _, rfl, rfl, u46 _ _ C5.1, ?_, ?_⟩
                    · rw [List.length_map, C5.2.length]
                      exact Nat.lt_of_le_of_lt hl (by decide)
                    · have cue : CueAt (upd (upd (upd (upd H3 q (.lst [])) q1 (.lst [])) q2 (.lst [])) t (.tup [.str n, .ref q1, .ref q2])) (t, q1, q2) ⟨n, [], []⟩ :=
                        ⟨upd_same, ⟨[], u6 _ _ (u5 _ _ upd_same), .nil⟩, ⟨[], u6 _ _ upd_same, .nil⟩⟩
                      have O4 := (O.next s14).push (e := (t, q1, q2)) (c := ⟨n, [], []⟩) u46 hq1 hq2' n12 cue
                      refine kT _ _ _ O4 ?_
                      rw [nl, decide_eq_true h12, decide_eq_true hm] <;> rfl
                  | some c =>
                    obtain ⟨es0, x, ee, pp, fx⟩ := paired_split C4.2 e
                    subst ee
                    have ne : (((es0 ++ [x]).map fun e => V.ref e.1)).isEmpty = false := by
                      rw [List.map_append]
                      cases es0 <;> rfl
                    rw [ne]
                    refine iteT ?_
                    refine ⟨_, rfl, 1, rfl, l, _, -1, .ref x.1, rfl, rfl, SqL.of C4.1, by rw [List.map_append]; exact atI_last _ _, x.1, _, 1, .ref x.2.1, rfl, rfl, SqT.of fx.1, atI_nat (j := 1) rfl, Nat.zero_le _, fun q3 hq3 => ?_⟩
                    have s5 := same_new (o := .lst []) hq3
                    obtain ⟨ts, hm5, pm⟩ := (fx.same s5).2.1
                    have s15 := (s13.trans s4).trans s5
                    refine ⟨x.2.1, q3, _, rfl, rfl, SqL.of hm5, upd_same, _, rfl, ?_⟩
                    have eE : (ts.map V.ref).isEmpty = c.moves.isEmpty := by
                      have hl := pm.length
                      cases ts with
                      | nil =>
                        cases h0 : c.moves with
                        | nil => rfl
                        | cons a b =>
                          rw [h0] at hl
                          cases hl
                      | cons a b =>
                        cases h0 : c.moves with
                        | nil =>
                          rw [h0] at hl
                          cases hl
                        | cons a b => rfl
                    rw [eE]
                    cases e0 : c.moves.isEmpty with
                    | true =>
                      refine iteT (kF _ (O.same.trans s15) ?_)
                      rw [lastOpen_some e, e0] <;> rfl
                    | false =>
                      refine iteF ?_
                      have nl : lastOpen cs = false := by rw [lastOpen_some e, e0]
                      have hl := S.len
                      have C5 := O.at_.same s15
                      refine ⟨_, rfl, .inl ⟨rfl, _, SqL.of C5.1⟩, _, rfl, wl, _, 1, .str n, rfl, rfl, Same.seq s15 hw, atI_nat (j := 1) rfl, ?_⟩
                      refine ⟨Nat.zero_le _, fun q1 hq1 => ⟨Nat.zero_le _, fun q2 hq2 => ⟨(by show 3 ≤ sizeLine; decide), fun t ht => ?_⟩⟩⟩
                      obtain ⟨n12, hq2'⟩ := fresh2r hq1 hq2
                      have u4 := same_new (o := .lst []) hq1
                      have u5 := same_new (o := .lst []) hq2
                      have u6 := same_new (o := .tup [.str n, .ref q1, .ref q2]) ht
                      have u46 := (u4.trans u5).trans u6
                      refine ⟨l, _, _, rfl, rfl, u46 _ _ C5.1, ?_, ?_⟩
                      · rw [List.length_map, C5.2.length]
                        exact Nat.lt_of_le_of_lt hl (by decide)
                      · have cue : CueAt (upd (upd (upd (upd (upd H3 q (.lst [])) q3 (.lst [])) q1 (.lst [])) q2 (.lst [])) t (.tup [.str n, .ref q1, .ref q2])) (t, q1, q2) ⟨n, [], []⟩ :=
                          ⟨upd_same, ⟨[], u6 _ _ (u5 _ _ upd_same), .nil⟩, ⟨[], u6 _ _ upd_same, .nil⟩⟩
                        have O4 := (O.next s15).push (e := (t, q1, q2)) (c := ⟨n, [], []⟩) u46 hq1 hq2' n12 cue
                        refine kT _ _ _ O4 ?_
                        rw [nl, decide_eq_true h12, decide_eq_true hm] <;> rfl
          · rw [if_neg hv] at kF kT
            rw [decide_eq_false hv]
            refine iteF ?_
            refine ⟨_, rfl, Nat.zero_le _, fun q hq => ?_⟩
            have s3 := same_new (o := .lst []) hq
            have s13 := s12.trans s3
            have C3 := O.at_.same s13
            refine ⟨l, q, _, rfl, rfl, SqL.of C3.1, upd_same, _, rfl, ?_⟩
            cases e : cs.getLast? with
            | none =>
              have ec := List.getLast?_eq_none_iff.mp e
              subst ec
              have ee : es = [] := List.length_eq_zero_iff.mp (by rw [len] <;> rfl)
              subst ee
              refine iteT (kF _ (O.same.trans s13) ?_)
              rw [moveIn_nil, thenIn_nil]
              split
              · rfl
              · split <;> rfl
            | some c =>
              obtain ⟨es0, x, ee, pp, fx⟩ := paired_split C3.2 e
              subst ee
              have ne : (((es0 ++ [x]).map fun e => V.ref e.1)).isEmpty = false := by
                rw [List.map_append]
                cases es0 <;> rfl
              rw [ne]
              refine iteF ?_
              have W := S.w c (last_mem e)
              refine ⟨_, rfl, 1, rfl, l, _, -1, .ref x.1, rfl, rfl, SqL.of C3.1, by rw [List.map_append]; exact atI_last _ _, _, rfl, x.1, _, rfl, SqT.of fx.1, by show ¬ (HT.sIx 3 0 (some 1) = 0 ∧ HT.sIx 3 3 none = 3); decide, fun t ht => ?_⟩
              have etc : cutV [.str c.name, .ref x.2.1, .ref x.2.2] (some 1) none = [.ref x.2.1, .ref x.2.2] := by
                rw [show (1 : Int) = ((1 : Nat) : Int) from rfl, cutV_from] <;> rfl
              rw [etc]
              have s4 := same_new (o := .tup [.ref x.2.1, .ref x.2.2]) ht
              refine ⟨t, _, rfl, SqT.of upd_same, rfl, _, _, rfl, _, _, rfl, rfl, ?_⟩
              have s14 := s13.trans s4
              have fx4 := fx.same s4
              have hw4 := s14.seq hw
              have eD4 := s4 _ _ (s3 _ _ eD2)
              have nd := O.nd
              rw [foot_app, foot_one, List.nodup_append] at nd
              have nx : x.2.1 ≠ x.2.2 := by
                have z := nd.2.1
                simp at z
                exact z
              have nB : B x.2.1 = none ∧ B x.2.2 = none := by
                obtain ⟨m1, m2⟩ := foot_mem (es := es0 ++ [x]) (e := x) (by simp)
                exact ⟨O.ne _ m1, O.ne _ m2⟩
              obtain ⟨⟨ts, hm, pm⟩, ⟨fs, hf, pf⟩⟩ := fx4.2
              refine ⟨_, rfl, wl, _, 0, .str v, rfl, rfl, hw4, atI_nat (j := 0) rfl, rfl, _, rfl, ?_⟩
              rw [strV_dec]
              by_cases hv2 : v = sMove
              · rw [if_pos hv2] at kF kT
                rw [decide_eq_true hv2]
                refine iteT ?_
                refine ⟨_, rfl, wl, _, rfl, .inl hw4, rfl, _, rfl, ?_⟩
                rw [show V.int 4 = V.int ((4 : Nat) : Int) from rfl, len_dec]
                by_cases h4 : (v :: n :: r).length = 4
                · rw [decide_eq_true h4]
                  refine iteT ?_
                  obtain ⟨g, u, rfl⟩ := two_of (show r.length = 2 by rw [List.length_cons, List.length_cons] at h4; omega)
                  rw [moveIn_four e] at kF kT
                  obtain ⟨ni, hi⟩ := some_of g (by simp)
                  obtain ⟨nj, hj⟩ := some_of u (by simp)
                  rw [hi, hj] at kF kT
                  have eN : (([g, u].map numOf).map optV) = [V.int ni, V.int nj] := by
                    show [optV (numOf g), optV (numOf u)] = _
                    rw [hi, hj] <;> rfl
                  rw [eN] at eD4
                  refine ⟨_, rfl, Nat.zero_le _, fun q3 hq3 => ?_⟩
                  have s5 := same_new (o := .lst []) hq3
                  have s15 := s14.trans s5
                  refine ⟨x.2.2, q3, _, rfl, rfl, SqL.of (s5 _ _ hf), upd_same, _, rfl, ?_⟩
                  rw [paired_empty pf]
                  cases e2 : c.fols.isEmpty with
                  | false =>
                    refine iteT (kF _ (O.same.trans s15) ?_)
                    rw [e2, Bool.false_and, Bool.and_false] <;> rfl
                  | true =>
                    rw [e2] at kF kT
                    refine iteF ?_
                    have hm5 := s5 _ _ hm
                    refine ⟨_, rfl, x.2.1, _, rfl, .inl (SqL.of hm5), rfl, _, rfl, ?_⟩
                    rw [show V.int 6 = V.int ((6 : Nat) : Int) from rfl, len_decV, List.length_map, pm.length]
                    by_cases h6 : c.moves.length = 6
                    · rw [decide_eq_true h6]
                      refine iteT (kF _ (O.same.trans s15) ?_)
                      rw [decide_eq_false (show ¬ c.moves.length ≠ 6 from fun z => z h6), Bool.false_and, Bool.and_false, Bool.and_false] <;> rfl
                    · rw [decide_eq_false h6]
                      rw [decide_eq_true (show c.moves.length ≠ 6 from h6)] at kF kT
                      refine iteF ?_
                      refine ⟨_, rfl, wl, _, 1, .str n, rfl, rfl, s15.seq hw, atI_nat (j := 1) rfl, _, rfl, x.2.1, rfl, ⟨_, SqL.of hm5⟩, fun D3 hD3 => ?_⟩
                      refine lc_first (SqL.of hm5) (mvs_firsts (Paired.mapP pm fun t' m' q => s5 _ _ q)) (by rw [pm.length]; have := W.ml; omega) hD3 (by show 8 < 9; decide) fun H7 s7 eD7 => ?_
                      have s17 := s15.trans s7
                      refine ⟨D3, _, rfl, .inl (SqL.of eD7), rfl, flat_strs _, _, rfl, ?_⟩
                      show if inV (V.str n) ((c.moves.map (·.1)).map V.str) = true then _ else _
                      rw [inV_strs]
                      by_cases hmm : n ∈ c.moves.map (·.1)
                      · rw [decide_eq_true hmm]
                        refine iteT (kF H7 (O.same.trans s17) ?_)
                        rw [decide_eq_false (show ¬ n ∉ c.moves.map (·.1) from fun z => z hmm), Bool.and_false, Bool.and_false, Bool.and_false] <;> rfl
                      · rw [decide_eq_false hmm]
                        rw [decide_eq_true (show n ∉ c.moves.map (·.1) from hmm)] at kF kT
                        refine iteF ?_
                        have s57 := s5.trans s7
                        have hm7 := s57 _ _ hm
                        have eDn := s57 _ _ eD4
                        have hw7 := s17.seq hw
                        refine ⟨_, rfl, .inl ⟨rfl, _, SqL.of hm7⟩, _, rfl, wl, _, 1, .str n, rfl, rfl, hw7, atI_nat (j := 1) rfl, _, rfl, D, _, 0, .int ni, rfl, rfl, SqL.of eDn, atI_nat (j := 0) rfl, _, rfl, D, _, 1, .int nj, rfl, rfl, SqL.of eDn, atI_nat (j := 1) rfl, (by show 3 ≤ sizeLine; decide), fun tm htm => ?_⟩
                        have s8 := same_new (o := .tup [.str n, .int ni, .int nj]) htm
                        have s18 := s17.trans s8
                        have hm8 := s8 _ _ hm7
                        have pm8 : Paired (MvAt (upd H7 tm (.tup [.str n, .int ni, .int nj]))) ts c.moves := Paired.mapP pm fun t' m' q => s8 _ _ (s57 _ _ q)
                        refine ⟨x.2.1, _, _, rfl, rfl, hm8, ?_, ?_⟩
                        · rw [List.length_map, pm.length]
                          exact Nat.lt_of_le_of_lt W.ml (by decide)
                        have hM : MvsAt (upd (upd H7 tm (.tup [.str n, .int ni, .int nj])) x.2.1 (.lst (ts.map V.ref ++ [V.ref tm]))) x.2.1 (c.moves ++ [(n, ni, nj)]) := MvsAt.snoc hm8 pm8 upd_same
                        have fx8 := (fx4.same s57).same s8
                        have hC : CueAt (upd (upd H7 tm (.tup [.str n, .int ni, .int nj])) x.2.1 (.lst (ts.map V.ref ++ [V.ref tm]))) x { c with moves := c.moves ++ [(n, ni, nj)] } :=
                          ⟨by rw [upd_ne (ne_of fx8.1 hm8 (by intro z; cases z))]; exact fx8.1, hM, fx8.2.2.upd hm8 nx.symm⟩
                        have O9 := (O.next s18).grow e (.inl rfl) hm8 hC
                        have eD9 : upd (upd H7 tm (.tup [.str n, .int ni, .int nj])) x.2.1 (.lst (ts.map V.ref ++ [V.ref tm])) D = some (.lst [V.int ni, V.int nj]) := by
                          have nDm : D ≠ x.2.1 := fun z => by
                            have hDB : H D = none := s0.free hD
                            have y3 : ∃ zs, H x.2.1 = some (.lst zs) := O.lsts x.2.1 (foot_mem (es := es0 ++ [x]) (e := x) (by simp)).1
                            obtain ⟨zs, y3⟩ := y3
                            rw [z, y3] at hDB
                            cases hDB
                          rw [upd_ne nDm]
                          exact s8 _ _ eDn
                        have fin : ∀ b, mvOk n (some ni) (some nj) = b → Q (.bl b) (upd (upd H7 tm (.tup [.str n, .int ni, .int nj])) x.2.1 (.lst (ts.map V.ref ++ [V.ref tm]))) := fun b hb => by
                          cases b with
                          | true =>
                            refine kT _ _ _ O9 ?_
                            rw [hb] <;> rfl
                          | false =>
                            refine kF _ O9.same ?_
                            rw [hb] <;> rfl
                        have mv : mvOk n (some ni) (some nj) = ((decide (-1000000000 ≤ ni) && decide (ni ≤ 1000000000)) && (decide (0 ≤ nj) && decide (nj ≤ 50))) := by
                          unfold mvOk
                          rw [e1, Bool.true_and]
                          rfl
                        refine ⟨rfl, rfl, _, _, rfl, rfl, _, rfl, D, _, 0, .int ni, rfl, rfl, SqL.of eD9, atI_nat (j := 0) rfl, _, _, rfl, rfl, _, rfl, ite2 (fun b1 => ?_) (fun b1 => ?_)⟩
                        · refine ⟨rfl, rfl, _, _, rfl, rfl, _, rfl, ite2 (fun b2 => ?_) (fun b2 => ?_)⟩
                          · refine ⟨_, rfl, D, _, 1, .int nj, rfl, rfl, SqL.of eD9, atI_nat (j := 1) rfl, _, _, rfl, rfl, _, rfl, ite2 (fun b3 => ?_) (fun b3 => ?_)⟩
                            · refine ⟨_, _, rfl, rfl, fin _ ?_⟩
                              rw [mv, show decide (-1000000000 ≤ ni) = true from b1, show decide (ni ≤ 1000000000) = true from b2, show decide (0 ≤ nj) = true from b3, Bool.true_and, Bool.true_and, Bool.true_and]
                            · refine fin _ ?_
                              rw [mv, show decide (0 ≤ nj) = false from ne_t b3, Bool.false_and, Bool.and_false]
                          · refine fin _ ?_
                            rw [mv, show decide (ni ≤ 1000000000) = false from ne_t b2, Bool.and_false, Bool.false_and]
                        · refine ⟨false, rfl, iteF (fin _ ?_)⟩
                          rw [mv, show decide (-1000000000 ≤ ni) = false from ne_t b1, Bool.false_and, Bool.false_and]
                · rw [decide_eq_false h4]
                  refine iteF ?_
                  refine ⟨_, rfl, wl, _, 0, .str v, rfl, rfl, hw4, atI_nat (j := 0) rfl, rfl, _, rfl, ?_⟩
                  rw [strV_dec, decide_eq_false (show ¬ v = sThen from fun z => mt_ne (hv2.symm.trans z))]
                  exact iteF (iteF (kF _ (O.same.trans s14) (moveIn_not4 h4)))
              · rw [if_neg hv2] at kF kT
                rw [decide_eq_false hv2]
                refine iteF (iteF ?_)
                refine ⟨_, rfl, wl, _, 0, .str v, rfl, rfl, hw4, atI_nat (j := 0) rfl, rfl, _, rfl, ?_⟩
                rw [strV_dec]
                by_cases hv3 : v = sThen
                · rw [if_pos hv3] at kF kT
                  rw [decide_eq_true hv3]
                  refine iteT ?_
                  refine ⟨_, rfl, wl, _, rfl, .inl hw4, rfl, _, rfl, ?_⟩
                  rw [show V.int 3 = V.int ((3 : Nat) : Int) from rfl, len_dec]
                  by_cases h3 : (v :: n :: r).length = 3
                  · rw [decide_eq_true h3]
                    refine iteT ?_
                    obtain ⟨u, rfl⟩ : ∃ u, r = [u] := by
                      cases r with
                      | nil => exact absurd h3 (by show ¬ (2 : Nat) = 3; decide)
                      | cons a b =>
                        cases b with
                        | nil => exact ⟨a, rfl⟩
                        | cons a2 b2 =>
                          simp only [List.length_cons] at h3
                          omega
                    rw [thenIn_three e] at kF kT
                    obtain ⟨nj, hj⟩ := some_of u (by simp)
                    rw [hj] at kF kT
                    have eN : (([u].map numOf).map optV) = [V.int nj] := by
                      show [optV (numOf u)] = _
                      rw [hj] <;> rfl
                    rw [eN] at eD4
                    refine ⟨_, rfl, Nat.zero_le _, fun q3 hq3 => ?_⟩
                    have s5 := same_new (o := .lst []) hq3
                    have s15 := s14.trans s5
                    refine ⟨x.2.1, q3, _, rfl, rfl, SqL.of (s5 _ _ hm), upd_same, _, rfl, ?_⟩
                    rw [paired_empty pm]
                    cases e2 : c.moves.isEmpty with
                    | true =>
                      refine iteF (iteF (kF _ (O.same.trans s15) ?_))
                      rw [e2] <;> rfl
                    | false =>
                      rw [e2] at kF kT
                      refine iteT ?_
                      have hf5 := s5 _ _ hf
                      refine ⟨_, rfl, x.2.2, _, rfl, .inl (SqL.of hf5), _, _, rfl, rfl, _, rfl, ?_⟩
                      rw [List.length_map, pf.length]
                      have fl := W.fl
                      show if decide ((c.fols.length : Int) < 3) = true then _ else _
                      by_cases h6 : c.fols.length = 3
                      · refine iteD (show ¬ (c.fols.length : Int) < 3 by omega) (kF _ (O.same.trans s15) ?_)
                        rw [decide_eq_false (show ¬ c.fols.length ≠ 3 from fun z => z h6), Bool.and_false, Bool.and_false] <;> rfl
                      · rw [decide_eq_true (show (c.fols.length : Int) < 3 by omega)]
                        rw [decide_eq_true (show c.fols.length ≠ 3 from h6)] at kF kT
                        refine iteT ?_
                        have eDn := s5 _ _ eD4
                        have hw7 := s15.seq hw
                        refine ⟨_, rfl, .inl ⟨rfl, _, SqL.of hf5⟩, _, rfl, wl, _, 1, .str n, rfl, rfl, hw7, atI_nat (j := 1) rfl, _, rfl, D, _, 0, .int nj, rfl, rfl, SqL.of eDn, atI_nat (j := 0) rfl, (by show 2 ≤ sizeLine; decide), fun tm htm => ?_⟩
                        have s8 := same_new (o := .tup [.str n, .int nj]) htm
                        have s18 := s15.trans s8
                        have hf8 := s8 _ _ hf5
                        have pf8 : Paired (FoAt (upd _ tm (.tup [.str n, .int nj]))) fs c.fols := Paired.mapP pf fun t' m' q => s8 _ _ (s5 _ _ q)
                        refine ⟨x.2.2, _, _, rfl, rfl, hf8, ?_, ?_⟩
                        · rw [List.length_map, pf.length]
                          exact Nat.lt_of_le_of_lt fl (by decide)
                        have hM := FosAt.snoc hf8 pf8 (t := tm) (m := (n, nj)) upd_same
                        have fx8 := (fx4.same s5).same s8
                        have hC : CueAt (upd _ x.2.2 (.lst (fs.map V.ref ++ [V.ref tm]))) x { c with fols := c.fols ++ [(n, nj)] } :=
                          ⟨by rw [upd_ne (ne_of fx8.1 hf8 (by intro z; cases z))]; exact fx8.1, fx8.2.1.upd hf8 nx, hM⟩
                        have O9 := (O.next s18).grow e (.inr rfl) hf8 hC
                        have nDm : D ≠ x.2.2 := fun z => by
                          have hDB : H D = none := s0.free hD
                          have y3 : ∃ zs, H x.2.2 = some (.lst zs) := O.lsts x.2.2 (foot_mem (es := es0 ++ [x]) (e := x) (by simp)).2
                          obtain ⟨zs, y3⟩ := y3
                          rw [z, y3] at hDB
                          cases hDB
                        have eD8 := s8 _ _ eDn
                        have eD9 := (upd_ne (H := upd (upd (upd (upd H2 q (.lst [])) t (.tup [.ref x.2.1, .ref x.2.2])) q3 (.lst [])) tm (.tup [.str n, .int nj])) (o := .lst (fs.map V.ref ++ [V.ref tm])) nDm).trans eD8
                        have fin : ∀ b, foOk n (some nj) = b → Q (.bl b) (upd (upd (upd (upd (upd H2 q (.lst [])) t (.tup [.ref x.2.1, .ref x.2.2])) q3 (.lst [])) tm (.tup [.str n, .int nj])) x.2.2 (.lst (fs.map V.ref ++ [V.ref tm]))) := fun b hb => by
                          cases b with
                          | true =>
                            refine kT _ _ _ O9 ?_
                            rw [hb] <;> rfl
                          | false =>
                            refine kF _ O9.same ?_
                            rw [hb] <;> rfl
                        have mv : foOk n (some nj) = (decide (0 ≤ nj) && decide (nj ≤ 50)) := by
                          unfold foOk
                          rw [e1, Bool.true_and]
                          rfl
                        refine ⟨_, rfl, D, _, 0, .int nj, rfl, rfl, SqL.of eD9, atI_nat (j := 0) rfl, _, _, rfl, rfl, _, rfl, ite2 (fun b3 => ?_) (fun b3 => ?_)⟩
                        · refine ⟨_, _, rfl, rfl, fin _ ?_⟩
                          rw [mv, show decide (0 ≤ nj) = true from b3, Bool.true_and]
                        · refine fin _ ?_
                          rw [mv, show decide (0 ≤ nj) = false from ne_t b3, Bool.false_and]
                  · rw [decide_eq_false h3]
                    exact iteF (iteF (kF _ (O.same.trans s14) (thenIn_not3 h3)))
                · rw [if_neg hv3] at kF
                  rw [decide_eq_false hv3]
                  exact iteF (iteF (kF _ (O.same.trans s14) rfl))
end
end Fw

/-! ==== FwL11 ==== -/
set_option Elab.async false
set_option linter.all false
set_option maxRecDepth 100000
set_option maxHeartbeats 4000000
/-! walks of the law: its own reading of a text -/
namespace Fw
open PySem PySem.Spec PyProof.Rows L2 TL
section
variable {P : Program} {w : World} {K : PySem.W.Frag} {mg : Str → Option Value} {base : Heap}
theorem rowsIn_consL (cs : List Cue) (r : Str) (rs : List Str) (k : Nat) : rowsIn cs (r :: rs) k = match rowIn cs (Txt.split r sBl) with | none => .inl (k + 1) | some cs' => rowsIn cs' rs (k + 1) := rfl
theorem drop_getL {α : Type} {l : List α} {i : Nat} {x : α} (h : l[i]? = some x) : l.drop i = x :: l.drop (i + 1) := by
  obtain ⟨hi, e⟩ := List.getElem?_eq_some_iff.mp h
  rw [List.drop_eq_getElem_cons hi, e]
def spReadL (K : PySem.W.Frag) : Sp := fun vs H Q _ => ∃ x : Str, vs = [.str x] ∧ x.length ≤ 900000 ∧ (∀ (k : Nat) H', readOf x = .inl k → Same H H' → Q (.int k) H') ∧ ∀ l es cs H', readOf x = .inr cs → Own H H' l es cs → Q (.ref l) H'
abbrev nn_law_read : List Str := ["_law_text_here", "_law_cues_here", "_law_rows", "_law_k"]
theorem sc_law_read : FnScope nn_law_read ["_law_text_here"] (defScope s_law_read) := ⟨rfl, rfl, rfl, by decide +kernel, rfl, by decide +kernel, by decide +kernel⟩
theorem ok_law_read (T : Tx K mg) : OkD P w K mg base CX0 3 ("_law_read", none) ["_law_text_here"] (spReadL K) := by
  obtain ⟨fd_law_takes, G_law_takes, b_law_takes, k_law_takes⟩ := ok_law_takes (P := P) (w := w) (base := base) T
  refine OkD.mk T.f_law_read sc_law_read (fun _ _ _ _ _ _ us hl => match us, hl with | [_], _ => rfl) (fun vs H Q E h => ?_) (fun cdv A outer s H vs Q E hr h => ?_)
  · obtain ⟨x, rfl, _⟩ := h
    rfl
  · obtain ⟨x, rfl, hx, kL, kR⟩ := h
    have hr_law_takes : Room 2 _ := hr.mono (by decide)
    refine ⟨_, (pss_cons (ps_set (i := 1) sc_law_read.nd rfl (Or.inl rfl) (pe_lst pa_nil))
      (pss_cons (ps_set (i := 2) sc_law_read.nd rfl (Or.inl rfl) (pe_split (pv 0) pe_str))
      (pss_cons (ps_for PassesOwn.never rfl (pi_range1 (by rfl) T.b_range (pa_cons (pe_callB call_len_seq (by rfl) T.b_len bv_len (pa_cons (pv 2) pa_nil)) pa_nil)) (pg_name (i := 3) sc_law_read.nd rfl (Or.inl rfl))
        (pss_one (ps_if (pt_not (pt_val (pe_call G_law_takes hr_law_takes (by rfl) T.g_law_takes k_law_takes b_law_takes .nil pass0 (pa_cons (pv 1) (pa_cons (pe_split (pe_ix ix_list (pv 2) (pv 3) (fun _ _ => rfl)) pe_str) pa_nil)))))
            (pss_one (ps_ret (pe_op op_add (pv 3) pe_int)))
            pss_nil)))
      (pss_one (ps_ret (pe_ifExp (pt_cmpR (op_eqE hr.units) (pe_ix ix_tup (pe_ix ix_list (pv 1) (pe_un un_neg pe_int) (fun _ _ => rfl)) pe_int (fun _ _ => rfl)) (pe_lst pa_nil) (by first | exact nomark _ | rfl)) (pe_op op_add (pe_callB call_len_seq (by rfl) T.b_len bv_len (pa_cons (pv 2) pa_nil)) pe_int) (pv 1))))))), ?_⟩
    refine ⟨Nat.zero_le _, fun l hl => ?_⟩
    have s1 := same_new (o := .lst []) hl
    have ten : (1000000 : Nat) < sizeLine := by decide
    refine ⟨_, rfl, ⟨_, rfl⟩, _, _, rfl, rfl, rfl, by omega, fun rl hrl => ?_⟩
    have s2 := same_new (o := .lst ((Txt.split x sNl).map V.str)) hrl
    have hrlH : H rl = none := s1.free hrl
    have nlr : l ≠ rl := fun z => by
      rw [← z, upd_same] at hrl
      cases hrl
    have sH : Same H (upd H rl (.lst ((Txt.split x sNl).map V.str))) := same_new hrlH
    have O0 : Own (upd H rl (.lst ((Txt.split x sNl).map V.str))) (upd (upd H l (.lst [])) rl (.lst ((Txt.split x sNl).map V.str))) l [] [] := by
      refine ⟨fun b o e => ?_, ⟨?_, .nil⟩, ?_, fun a ha => (by cases ha), List.nodup_nil, fun z => (by cases z)⟩
      · by_cases hb : b = rl
        · rw [hb, upd_same] at e ⊢
          exact e
        · rw [upd_ne hb] at e ⊢
          exact s1 _ _ e
      · rw [upd_ne nlr]
        exact upd_same
      · rw [upd_ne nlr]
        exact hl
    have lenR : (Txt.split x sNl).length ≤ x.length + 1 := by
      have z1 := lens_len (Txt.split x sNl)
      have z2 := split_lens nl_tl (by decide) x
      omega
    refine ⟨_, rfl, rl, _, rfl, .inl (SqL.of upd_same), ((Txt.split x sNl).length : Int), congrArg (fun z : Nat => [V.int (z : Int)]) (List.length_map ..), by omega, by omega, ?_⟩
    refine for_it (walk_range (lo := 0) (n := (Txt.split x sNl).length)) (fun i σ H2 => ∃ (v3 : Option V) (es : List Trip) (cs : List Cue), σ = [some (.str x), some (.ref l), some (.ref rl), v3] ∧ Own (upd H rl (.lst ((Txt.split x sNl).map V.str))) H2 l es cs ∧ SoFar cs ∧
        rowsIn [] (Txt.split x sNl) 0 = rowsIn cs ((Txt.split x sNl).drop i) i) ?_ ?_ ?_ ?_
    · exact ⟨none, [], [], rfl, O0, SoFar.nil, by rw [List.drop_zero]⟩
    · exact fun _ _ _ _ _ => trivial
    · rintro i x0 σ H2x H2 hi ⟨v3, es, cs, rfl, O, S, e⟩ ⟨rfl, rfl⟩
      show gName 3 (V.int (0 + (i : Int))) _ _ _
      rw [Int.zero_add]
      obtain ⟨r, hr0⟩ : ∃ r, (Txt.split x sNl)[i]? = some r := ⟨_, List.getElem?_eq_getElem hi⟩
      rw [drop_getL hr0, rowsIn_consL] at e
      have lr := lens_mem (List.mem_of_getElem? hr0)
      rw [split_lens nl_tl (by decide) x] at lr
      have erl := O.same _ _ (upd_same (H := H) (a := rl) (o := .lst ((Txt.split x sNl).map V.str)))
      refine ⟨_, rfl, _, rfl, _, rfl, rl, _, _, .str r, rfl, rfl, SqL.of erl, atI_nat (j := i) ?_, ⟨_, rfl⟩, _, _, rfl, rfl, rfl, ?_, fun wl hwl => ?_⟩
      · rw [List.getElem?_map, hr0] <;> rfl
      · omega
      have s4 := same_new (o := .lst ((Txt.split r sBl).map V.str)) hwl
      have lw := split_lens bl_tl (by decide) r
      refine ⟨_, l, wl, es, cs, Txt.split r sBl, rfl, O.next s4, S, SqL.of upd_same, fun z hz => ?_, split_ne bl_tl (by decide) r, ?_, fun H4 s5 e5 => ⟨_, rfl, iteT ?_⟩, fun H4 es' cs' O4 e5 => ⟨_, rfl, iteF ?_⟩⟩
      · have q1 := lens_mem hz
        omega
      · have q1 := lens_len (Txt.split r sBl)
        omega
      · rw [e5] at e
        refine ⟨_, rfl, _, _, rfl, rfl, ?_⟩
        refine kL (i + 1) H4 ?_ (sH.trans s5)
        unfold readOf
        rw [e]
      · rw [e5] at e
        exact ⟨_, es', cs', rfl, O4, (rowIn_ok S e5).1, e⟩
    · rintro σ H2 ⟨v3, es, cs, rfl, O, S, e⟩
      rw [List.drop_length] at e
      have e' : rowsIn [] (Txt.split x sNl) 0 = .inr cs := e
      have hne := (rowsIn_ok SoFar.nil e').2.2 (split_ne nl_tl (by decide) x)
      have erl := O.same _ _ (upd_same (H := H) (a := rl) (o := .lst ((Txt.split x sNl).map V.str)))
      obtain ⟨c, ec⟩ : ∃ c, cs.getLast? = some c := by
        cases z : cs.getLast? with
        | none => exact absurd (List.getLast?_eq_none_iff.mp z) hne
        | some c => exact ⟨c, rfl⟩
      obtain ⟨es0, y, ee, pp, fx⟩ := paired_split O.at_.2 ec
      subst ee
      refine ⟨_, rfl, 1, rfl, l, _, -1, .ref y.1, rfl, rfl, SqL.of O.at_.1, by rw [List.map_append]; exact atI_last _ _, y.1, _, 1, .ref y.2.1, rfl, rfl, SqT.of fx.1, atI_nat (j := 1) rfl, Nat.zero_le _, fun q hq => ?_⟩
      have s3 := same_new (o := .lst []) hq
      obtain ⟨ts, hm, pm⟩ := (fx.same s3).2.1
      refine ⟨y.2.1, q, _, rfl, rfl, SqL.of hm, upd_same, _, rfl, ?_⟩
      rw [paired_empty pm]
      have lo := lastOpen_some ec
      cases eo : c.moves.isEmpty with
      | true =>
        rw [eo] at lo
        refine iteT ?_
        refine ⟨_, rfl, rl, _, rfl, .inl (SqL.of (s3 _ _ erl)), _, _, rfl, rfl, ?_⟩
        rw [List.length_map]
        refine kL ((Txt.split x sNl).length + 1) _ ?_ (sH.trans (O.same.trans s3))
        unfold readOf
        rw [e']
        show (if lastOpen cs = true then _ else _) = _
        rw [if_pos lo]
      | false =>
        rw [eo] at lo
        refine iteF ?_
        refine ⟨_, rfl, kR l (es0 ++ [y]) cs _ ?_ ?_⟩
        · unfold readOf
          rw [e']
          show (if lastOpen cs = true then _ else _) = _
          rw [if_neg (by rw [lo]; exact Bool.false_ne_true)]
        · have O3 := O.next s3
          refine ⟨sH.trans O3.same, O3.at_, hl, fun a ha => ?_, O3.nd, O3.nm⟩
          have z := O3.ne a ha
          have n : a ≠ rl := fun y => by
            rw [y, upd_same] at z
            cases z
          rw [upd_ne n] at z
          exact z
end
end Fw

/-! ==== FwL12 ==== -/
set_option Elab.async false
set_option linter.all false
set_option maxRecDepth 100000
set_option maxHeartbeats 4000000
/-! walks of the law: what read_sheet says -/
namespace Fw
open PySem PySem.Spec PyProof.Rows L2 TL
section
variable {P : Program} {w : World} {K : PySem.W.Frag} {mg : Str → Option Value} {base : Heap}
theorem iteDF {c A B : Prop} [Decidable c] (hc : ¬ c) (h : B) : if decide c = true then A else B := by
  rw [decide_eq_false hc]
  exact iteF h
theorem iteDT {c A B : Prop} [Decidable c] (hc : c) (h : A) : if decide c = true then A else B := by
  rw [decide_eq_true hc]
  exact iteT h
theorem rowsIn_le : ∀ {rs : List Str} {cs : List Cue} {k0 k : Nat}, rowsIn cs rs k0 = .inl k → k ≤ k0 + rs.length
  | [], cs, k0, k, h => by
    have h' : (Sum.inr cs : Sum Nat (List Cue)) = .inl k := h
    cases h'
  | r :: rs, cs, k0, k, h => by
    rw [rowsIn_cons] at h
    cases e : rowIn cs (Txt.split r sBl) with
    | none =>
      rw [e] at h
      have h' : (Sum.inl (k0 + 1) : Sum Nat (List Cue)) = .inl k := h
      injection h' with h'
      rw [List.length_cons]
      omega
    | some cs' =>
      rw [e] at h
      have := rowsIn_le (rs := rs) (cs := cs') (k0 := k0 + 1) (k := k) h
      rw [List.length_cons]
      omega
theorem readOf_le {x : Str} {k : Nat} (h : readOf x = .inl k) : k ≤ x.length + 2 := by
  have z1 := lens_len (Txt.split x sNl)
  have z2 := split_lens nl_tl (by decide) x
  unfold readOf at h
  cases e : rowsIn [] (Txt.split x sNl) 0 with
  | inl j =>
    rw [e] at h
    have h' : (Sum.inl j : Sum Nat (List Cue)) = .inl k := h
    injection h' with h'
    have := rowsIn_le e
    omega
  | inr cs =>
    rw [e] at h
    have h1 : (if lastOpen cs = true then (Sum.inl ((Txt.split x sNl).length + 1) : Sum Nat (List Cue)) else .inr cs) = .inl k := h
    by_cases hl : lastOpen cs = true
    · rw [if_pos hl] at h1
      injection h1 with h1
      omega
    · rw [if_neg hl] at h1
      cases h1
def spSaid (K : PySem.W.Frag) : Sp := fun vs H Q _ =>
  (∃ x : Str, vs = [.str x] ∧ x.length ≤ 900000 ∧ (∀ (k : Nat) H', readOf x = .inl k → Same H H' → Q (.str (Str.ofString "row " ++ numS k)) H') ∧ ∀ cs p H', readOf x = .inr cs → Same H H' → ShAt K H' p cs → Q (.ref p) H') ∨
  ∃ (v : V) (t : String), vs = [v] ∧ TyX K H v (.type t) ∧ kitB t "str" = some false ∧ ∀ H', Same H H' → Q (.str (Str.ofString "row " ++ numS 1)) H'
abbrev nn_law_said : List Str := ["_law_text_here", "_law_found", "_law_refusal", "_law_e"]
theorem sc_law_said : FnScope nn_law_said ["_law_text_here"] (defScope s_law_said) := ⟨rfl, rfl, rfl, by decide +kernel, rfl, by decide +kernel, by decide +kernel⟩
theorem ok_law_said (T : Tx K mg) : OkD P w K mg base CX0 8 ("_law_said", none) ["_law_text_here"] (spSaid K) := by
  obtain ⟨fd_law_word, G_law_word, b_law_word, k_law_word⟩ := ok_law_word (P := P) (w := w) (base := base) T
  obtain ⟨fd_read_sheet, G_read_sheet, b_read_sheet, k_read_sheet⟩ := ok_read_sheet (P := P) (w := w) (base := base) T
  refine OkD.mk T.f_law_said sc_law_said (fun _ _ _ _ _ _ us hl => match us, hl with | [_], _ => rfl) (fun vs H Q E h => ?_) (fun cdv A outer s H vs Q E hr h => ?_)
  · rcases h with ⟨x, rfl, _⟩ | ⟨v, t, rfl, _⟩ <;> rfl
  · have hr_law_word : Room 1 _ := hr.mono (by decide)
    have hr_read_sheet : Room 7 _ := hr.mono (by decide)
    refine ⟨_, (pss_cons (ps_set (i := 1) sc_law_said.nd rfl (Or.inl rfl) pe_non)
      (pss_cons (ps_set (i := 2) sc_law_said.nd rfl (Or.inl rfl) pe_non)
      (pss_cons (ps_try_keep (i := 3) (tb := fun W => tAsg (tCallS (spRead K) (WE W) (tCons (tVar 0) tNil)) (gName 1)) (ts := fun _ _ _ => tAsg (tVar 3) (gName 2)) rfl rfl sc_law_said.nd rfl rfl ⟨rfl, by decide, Or.inl T.g_StageError⟩
        (fun W pn xe tk _ => pss_one (ps_set (i := 1) sc_law_said.nd rfl (Or.inl rfl) (by exact (pe_callS G_read_sheet hr_read_sheet (by rfl) T.g_read_sheet k_read_sheet b_read_sheet (fun σ => passAt tk σ) (by exact (pa_cons (pv 0) pa_nil))))))
        (fun a oe cls d pn _ _ => pss_one (ps_set (i := 2) sc_law_said.nd rfl (Or.inl rfl) (by exact (pv 3)))))
      (pss_one (ps_ret (pe_ifExp (pt_cmpR op_isN (pv 2) pe_non (by first | exact nomark _ | rfl)) (pv 1) (pe_call G_law_word hr_law_word (by rfl) T.g_law_word k_law_word b_law_word .nil pass0 (pa_cons (pv 2) pa_nil)))))))), ?_⟩
    -- behind the suite
    have caught : ∀ (k : Int) (H' : Hp) (d a : Addr), (-1000000000 ≤ k ∧ k ≤ 1000000000) → Same H H' → H' d = some (.xd [("row", .int k)]) → H' a = none → (∀ H'', Same H H'' → Q (.str (Str.ofString "row " ++ numS k)) H'') →
        spWord K [.ref a] (upd H' a (ExK (.ref (aBR K)) (some d) a)) Q E0 := fun k H' d a hk s ed ea q =>
      ⟨a, d, k, rfl, upd_same, by rw [upd_ne (ne_of_none ed ea)]; exact ed, hk, fun H'' s2 => q H'' fun b o e => s2 b o (by rw [upd_ne (ne_of_none (s b o e) ea)]; exact s b o e)⟩
    have stage : PySem.W.exmOne K (.ref (aBR K)) (.ref (aSE K)) = some true := T.ex_BadRow
    rcases h with ⟨x, rfl, hx, kL, kR⟩ | ⟨v, t, rfl, ty, kt, kL⟩
    · refine ⟨_, rfl, .inl ⟨x, rfl, hx, fun k H' d e s ed => ⟨stage, fun a ha => ⟨_, rfl, ha, ?_⟩⟩, fun cs p H' e s A => ?_⟩⟩
      · have hk := readOf_le e
        exact ⟨_, rfl, rfl, _, rfl, iteDF (by intro z; cases z) ⟨_, rfl, caught k H' d a (by omega) s ed ha fun H'' s2 => kL k H'' e s2⟩⟩
      · exact ⟨_, rfl, rfl, _, rfl, iteDT rfl ⟨_, rfl, kR cs p H' e s A⟩⟩
    · refine ⟨_, rfl, .inr ⟨v, t, rfl, ty, kt, fun H' d s ed => ⟨stage, fun a ha => ⟨_, rfl, ha, ?_⟩⟩⟩⟩
      exact ⟨_, rfl, rfl, _, rfl, iteDF (by intro z; cases z) ⟨_, rfl, caught 1 H' d a (by decide) s ed ha kL⟩⟩
end
end Fw

/-! ==== FwL13 ==== -/
set_option Elab.async false
set_option linter.all false
set_option maxRecDepth 100000
set_option maxHeartbeats 4000000
/-! walks of the law: a sheet tells the cues -/
namespace Fw
open PySem PySem.Spec PyProof.Rows L2 TL
section
variable {P : Program} {w : World} {K : PySem.W.Frag} {mg : Str → Option Value} {base : Heap}
theorem strs_dp {H : Hp} {a : Addr} {ns : List Str} (h : SqL K H a (ns.map V.str)) : Dp K H (.ref a) (.list (ns.map PyData.str)) := by
  refine .lst h ?_
  clear h
  induction ns with
  | nil => exact .nil
  | cons n r ih => exact .cons (.str n) ih
theorem names_shaped {ns : List Str} (h : ∀ n ∈ ns, isName n = true) : SeqAt.shaped (.list (ns.map PyData.str)) = true := by
  refine shaped_of ?_ ?_
  · exact lay_all (f := PyData.str) fun m hm => strOk_name (h m hm)
  · have h1 := dep_all (f := PyData.str) (n := 0) (l := ns) fun m _ => Nat.le_refl _
    show PyData.depthAll (ns.map PyData.str) + 1 ≤ 64
    omega
theorem SheetOk.names {cs : List Cue} (S : SheetOk cs) : ∀ n ∈ cs.map (·.name), isName n = true := fun n hn => by
  obtain ⟨c, hc, rfl⟩ := List.mem_map.mp hn
  exact (S.w c hc).n
theorem none_list (n : Nat) : (List.range n).filterMap (fun _ => (none : Option V)) = [] := by
  induction n with
  | zero => rfl
  | succ n ih => rw [List.range_succ, List.filterMap_append, ih] <;> rfl
def spCRight (K : PySem.W.Frag) : Sp := fun vs H Q _ => ∃ (p l : Addr) (es : List Trip) (cs : List Cue), vs = [.ref p, .ref l] ∧ ShAt K H p cs ∧ SheetOk cs ∧ CuesAt H l es cs ∧ ∀ H', Same H H' → Q (.bl true) H'
theorem is_sheet (T : Tx K mg) {H : Hp} {p : Addr} {cs : List Cue} (A : ShAt K H p cs) : TyX K H (.ref p) (.ref (aSh K)) := by
  obtain ⟨dx, d1, d2, ls, hp, _⟩ := A.ex
  exact .base (.ins hp T.cl_Sheet T.sh.cl T.br.sp T.br.tk T.sh.mo)
abbrev nn_law_cues_right : List Str := ["_law_sheet", "_law_cues_here", "_law_told", "_law_names_here", "_law_name", "_law_moves_here", "_law_followers_here", "_law_move", "_law_cue"]
theorem sc_law_cues_right : FnScope nn_law_cues_right ["_law_sheet", "_law_cues_here"] (defScope s_law_cues_right) := ⟨rfl, rfl, rfl, by decide +kernel, rfl, by decide +kernel, by decide +kernel⟩
theorem ok_law_cues_right (T : Tx K mg) : OkD P w K mg base CX0 5 ("_law_cues_right", none) ["_law_sheet", "_law_cues_here"] (spCRight K) := by
  obtain ⟨fd_Sheet_cues, G_Sheet_cues, b_Sheet_cues, k_Sheet_cues⟩ := ok_Sheet_cues (P := P) (w := w) (base := base) T
  obtain ⟨fd_Sheet_names, G_Sheet_names, b_Sheet_names, k_Sheet_names⟩ := ok_Sheet_names (P := P) (w := w) (base := base) T
  obtain ⟨fd_Sheet_text, G_Sheet_text, b_Sheet_text, k_Sheet_text⟩ := ok_Sheet_text (P := P) (w := w) (base := base) T
  obtain ⟨fd_law_text, G_law_text, b_law_text, k_law_text⟩ := ok_law_text (P := P) (w := w) (base := base) T
  refine OkD.mk T.f_law_cues_right sc_law_cues_right (fun _ _ _ _ _ _ us hl => match us, hl with | [_, _], _ => rfl) (fun vs H Q E h => ?_) (fun cdv A outer s H vs Q E hr h => ?_)
  · obtain ⟨p, l, es, cs, rfl, _⟩ := h
    rfl
  · obtain ⟨p, l, es, cs, rfl, A, S, C, k⟩ := h
    have hr_Sheet_cues : Room 3 _ := hr.mono (by decide)
    have hr_Sheet_names : Room 1 _ := hr.mono (by decide)
    have hr_Sheet_text : Room 4 _ := hr.mono (by decide)
    have hr_law_text : Room 1 _ := hr.mono (by decide)
    refine ⟨_, (pss_cons (ps_set (i := 2) sc_law_cues_right.nd rfl (Or.inl rfl) (pe_meth0 (pv 0) T.cl_Sheet T.m_Sheet_cues G_Sheet_cues hr_Sheet_cues b_Sheet_cues .nil pass0))
      (pss_cons (ps_set (i := 3) sc_law_cues_right.nd rfl (Or.inl rfl) (pe_meth0 (pv 0) T.cl_Sheet T.m_Sheet_names G_Sheet_names hr_Sheet_names b_Sheet_names .nil pass0))
      (pss_cons (ps_if (PW.pt (pw_or (pt_not (pt_val (pe_callB call_isi (by rfl) T.b_isinstance bv_isinstance (pa_cons (pv 0) (pa_cons (pe_glob (v := .ref (He.ga K "Sheet")) (by rfl) T.g_Sheet rfl) pa_nil))))) (pw_or (pt_not (pt_val (pe_callB call_isi (by rfl) T.b_isinstance bv_isinstance (pa_cons (pv 2) (pa_cons (pe_bltn (v := .ty "list") (by rfl) T.b_list bv_list rfl) pa_nil))))) (pw_or (pt_cmpR (op_neD hr.units) (pv 2) (pv 1) (by first | exact nomark _ | rfl)) (pw_or1 (pt_not (pt_val (pe_callB call_isi (by rfl) T.b_isinstance bv_isinstance (pa_cons (pv 3) (pa_cons (pe_bltn (v := .ty "list") (by rfl) T.b_list bv_list rfl) pa_nil))))))))))
        (pss_one (ps_ret pe_bl))
        pss_nil)
      (pss_cons (ps_for PassesOwn.never rfl (pi_list (pv 2)) (pg_tup rfl (pgs_cons (pg_name (i := 4) sc_law_cues_right.nd rfl (Or.inl rfl)) (pgs_cons (pg_name (i := 5) sc_law_cues_right.nd rfl (Or.inl rfl)) (pgs_cons (pg_name (i := 6) sc_law_cues_right.nd rfl (Or.inl rfl)) pgs_nil))))
        (pss_cons (ps_if (PW.pt (pw_or (pt_not (pt_val (pe_callB call_isi (by rfl) T.b_isinstance bv_isinstance (pa_cons (pv 5) (pa_cons (pe_bltn (v := .ty "list") (by rfl) T.b_list bv_list rfl) pa_nil))))) (pw_or1 (pt_not (pt_val (pe_callB call_isi (by rfl) T.b_isinstance bv_isinstance (pa_cons (pv 6) (pa_cons (pe_bltn (v := .ty "list") (by rfl) T.b_list bv_list rfl) pa_nil))))))))
            (pss_one (ps_ret pe_bl))
            pss_nil)
          (pss_one (ps_if (pt_cmpR (op_neE hr.units) (pe_lc (g := gName 7) (own := [("_law_move", 7)]) rfl sc_law_cues_right.nd (pi_list (pv 5)) (blkOk_by (own := [("_law_move", 7)]) (N := nn_law_cues_right) (sc := defScope s_law_cues_right) (by decide +kernel)) (fun _ _ _ _ _ => (pg_name (i := 7) sc_law_cues_right.nd rfl (Or.inl rfl))) (fun _ _ _ _ _ => pts_one (pt_not (pt_val (pe_callB (r := rIsi K) call_isi (by rfl) T.b_isinstance bv_isinstance (pa_cons (pv 7) (pa_cons (pe_bltn (v := .ty "tuple") (by rfl) T.b_tuple bv_tuple rfl) pa_nil)))))) (fun _ _ _ _ _ => (pv 7))) (pe_lst pa_nil) (by first | exact nomark _ | rfl))
            (pss_one (ps_ret pe_bl))
            pss_nil))))
      (pss_one (ps_ret (pe_and (pe_cmpR (op_eqD hr.units) (pv 3) (pe_lc (g := gName 8) (own := [("_law_cue", 8)]) rfl sc_law_cues_right.nd (pi_list (pv 1)) (blkOk_by (own := [("_law_cue", 8)]) (N := nn_law_cues_right) (sc := defScope s_law_cues_right) (by decide +kernel)) (fun _ _ _ _ _ => (pg_name (i := 8) sc_law_cues_right.nd rfl (Or.inl rfl))) (fun _ _ _ _ _ => pts_nil) (fun _ _ _ _ _ => (pe_ix (r := rIxT K) ix_tup (pv 8) pe_int (fun _ _ => rfl)))) (by first | exact nomark _ | rfl)) (pe_one (pe_cmpR op_eq (pe_meth0 (pv 0) T.cl_Sheet T.m_Sheet_text G_Sheet_text hr_Sheet_text b_Sheet_text .nil pass0) (pe_call G_law_text hr_law_text (by rfl) T.g_law_text k_law_text b_law_text .nil pass0 (pa_cons (pv 1) pa_nil)) (by first | exact nomark _ | rfl)))))))))), ?_⟩
    obtain ⟨dx, d1, d2, ls, hp, _⟩ := A.ex
    refine ⟨_, rfl, p, dx, _, rfl, hp, shF_no d1 d2 (by decide +kernel) (by decide +kernel), p, cs, rfl, A, S, fun H1 lt et s1 Ct nl nf => ?_⟩
    have A1 := A.same s1
    refine ⟨_, rfl, p, dx, _, rfl, s1 _ _ hp, shF_no d1 d2 (by decide +kernel) (by decide +kernel), p, cs, rfl, A1, S, fun n hn => ?_⟩
    have s2 := same_new (o := .lst ((cs.map (·.name)).map V.str)) hn
    have s12 := s1.trans s2
    have A2 := A1.same s2
    have Ct2 := Ct.same s2
    have C2 := C.same s12
    have W : ∀ c ∈ cs, c.W := S.w
    refine ⟨_, rfl, _, _, _, _, true, rfl, .own _, is_sheet T A2, T.sh.isSh, true, rfl, iteF ?_⟩
    refine ⟨_, rfl, _, _, _, _, true, rfl, .ty _, .base (.lst Ct2.1), kit_ty (by decide +kernel), true, rfl, iteF ?_⟩
    refine ⟨_, rfl, _, rfl, _, _, cuesAt_dp Ct2, cuesAt_dp C2, cues_shaped W, cues_shaped W, _, rfl, ?_⟩
    rw [cues_refl W]
    refine iteF ?_
    refine ⟨_, rfl, _, _, _, _, true, rfl, .ty _, .base (.lst (upd_same (a := n) (o := .lst ((cs.map (·.name)).map V.str)))), kit_ty (by decide +kernel), true, rfl, iteF ?_⟩
    -- for name, moves, followers in told
    refine ⟨_, rfl, lt, rfl, ⟨_, SqL.of Ct2.1⟩, ?_⟩
    refine for_it (walk_list (xs := et.map fun e => V.ref e.1)) (fun i σ H3 => ∃ (v4 v5 v6 : Option V), σ = [some (.ref p), some (.ref l), some (.ref lt), some (.ref n), v4, v5, v6, none, none] ∧ Same (upd H1 n (.lst ((cs.map (·.name)).map V.str))) H3) ?_ ?_ ?_ ?_
    · exact ⟨none, none, none, rfl, Same.refl _⟩
    · rintro i σ H3 hi ⟨v4, v5, v6, rfl, s3⟩
      exact SqL.of (s3 _ _ Ct2.1)
    · rintro i x σ H3x H3 hi ⟨v4, v5, v6, rfl, s3⟩ ⟨rfl, hx⟩
      rw [List.getElem?_map] at hx
      obtain ⟨e, he, rfl⟩ := Option.map_eq_some_iff.mp hx
      obtain ⟨c, hc, ce0⟩ := Paired.get Ct2.2 he
      have ce := ce0.same s3
      obtain ⟨c1, ⟨ms, hm, pm⟩, ⟨fs, hf, pf⟩⟩ := ce
      have cW := W c (List.mem_of_getElem? hc)
      refine ⟨e.1, _, rfl, SqT.of c1, rfl, _, _, rfl, _, _, rfl, _, _, rfl, rfl, ?_⟩
      refine ⟨_, rfl, _, _, _, _, true, rfl, .ty _, .base (.lst hm), kit_ty (by decide +kernel), true, rfl, iteF ?_⟩
      refine ⟨_, rfl, _, _, _, _, true, rfl, .ty _, .base (.lst hf), kit_ty (by decide +kernel), true, rfl, iteF ?_⟩
      refine ⟨_, rfl, e.2.1, rfl, ⟨_, SqL.of hm⟩, fun D hD => ?_⟩
      refine lc_f (walk_list (xs := ms.map V.ref)) (fun _ => none) (by rw [List.length_map, pm.length]; have := cW.ml; exact Nat.lt_of_le_of_lt this (by decide)) hD (fun H4 s4 => s4.seq (SqL.of hm)) (fun j x H4x H4 N N0 hj s4 hy _ kN0 => ?_) (fun H4 s4 eD => ?_)
      · obtain ⟨rfl, hx⟩ := hy
        rw [List.getElem?_map] at hx
        obtain ⟨u, hu, rfl⟩ := Option.map_eq_some_iff.mp hx
        obtain ⟨m, hmm, hmu⟩ := Paired.get pm hu
        have hmu' : H3 u = some (.tup _) := hmu
        exact ⟨rfl, _, rfl, _, _, _, _, true, rfl, .ty _, .base (.tup (s4 _ _ hmu')), kit_ty (by decide +kernel), true, rfl, iteF (kN0 _ rfl (Same.refl _))⟩
      · rw [none_list] at eD
        refine ⟨Nat.zero_le _, fun q hq => ?_⟩
        have s5 := same_new (o := .lst []) hq
        refine ⟨D, q, _, rfl, rfl, SqL.of (s5 _ _ eD), upd_same, _, rfl, iteF ?_⟩
        exact ⟨_, _, _, rfl, (s3.trans s4).trans s5⟩
    · rintro σ H3 ⟨v4, v5, v6, rfl, s3⟩
      have C3 := C2.same s3
      have len := C3.2.length
      have l12 := S.len.2
      have em : es.map (fun e => V.ref e.1) = (es.map (·.1)).map V.ref := by rw [List.map_map] <;> rfl
      have en3 := s3 _ _ (upd_same (H := H1) (a := n) (o := .lst ((cs.map (·.name)).map V.str)))
      refine ⟨_, rfl, _, rfl, l, rfl, ⟨_, SqL.of C3.1⟩, fun D hD => ?_⟩
      refine lc_first (by rw [← em]; exact SqL.of C3.1) C3.firsts (by rw [List.length_map, len]; omega) hD (by show 8 < 9; decide) fun H4 s4 eD => ?_
      refine ⟨_, _, strs_dp (SqL.of (s4 _ _ en3)), strs_dp (SqL.of eD), names_shaped S.names, names_shaped S.names, _, rfl, ?_⟩
      rw [SeqAt.eqv_refl _ (SeqAt.canLay_of_shaped (names_shaped S.names))]
      refine iteT ?_
      have s34 := s3.trans s4
      have s14 := s12.trans s34
      refine ⟨_, rfl, p, dx, _, rfl, s14 _ _ hp, shF_no d1 d2 (by decide +kernel) (by decide +kernel), p, cs, rfl, A.same s14, S, fun H5 s5 => ?_⟩
      refine ⟨_, rfl, l, es, cs, rfl, C.same (s14.trans s5), fun c hc => (W c hc).sm, by omega, fun H6 s6 => ?_⟩
      refine ⟨rfl, ?_⟩
      show Q (.bl (decide (V.str (sheetText cs) = V.str (sheetText cs)))) H6
      rw [decide_eq_true rfl]
      exact k H6 ((s14.trans s5).trans s6)
end
end Fw

/-! ==== FwL14 ==== -/
set_option Elab.async false
set_option linter.all false
set_option maxRecDepth 100000
set_option maxHeartbeats 4000000
/-! walks of the law: one text -/
namespace Fw
open PySem PySem.Spec PyProof.Rows L2 TL
section
variable {P : Program} {w : World} {K : PySem.W.Frag} {mg : Str → Option Value} {base : Heap}
theorem passL {X : Cx} : Passes (L2.CX X.prog X.w) X (fun _ _ _ => False) := fun _ _ _ _ _ _ _ h => by
  obtain ⟨a, B, H', cls, d, _, _, _, _, _, _, _, f⟩ := h
  exact f.elim
def spRight : Sp := fun vs H Q _ => ∃ x : Str, vs = [.str x] ∧ x.length ≤ 900000 ∧ ∀ H', Same H H' → Q (.bl true) H'
abbrev nn_law_right : List Str := ["_law_text_here", "_law_due", "_law_found"]
theorem sc_law_right : FnScope nn_law_right ["_law_text_here"] (defScope s_law_right) := ⟨rfl, rfl, rfl, by decide +kernel, rfl, by decide +kernel, by decide +kernel⟩
theorem ok_law_right (T : Tx K mg) : OkD P w K mg base CX0 9 ("_law_right", none) ["_law_text_here"] spRight := by
  obtain ⟨fd_Sheet_init, G_Sheet_init, b_Sheet_init, k_Sheet_init⟩ := ok_Sheet_init (P := P) (w := w) (base := base) T
  obtain ⟨fd_Sheet_text, G_Sheet_text, b_Sheet_text, k_Sheet_text⟩ := ok_Sheet_text (P := P) (w := w) (base := base) T
  obtain ⟨fd_law_cues_right, G_law_cues_right, b_law_cues_right, k_law_cues_right⟩ := ok_law_cues_right (P := P) (w := w) (base := base) T
  obtain ⟨fd_law_read, G_law_read, b_law_read, k_law_read⟩ := ok_law_read (P := P) (w := w) (base := base) T
  obtain ⟨fd_law_said, G_law_said, b_law_said, k_law_said⟩ := ok_law_said (P := P) (w := w) (base := base) T
  obtain ⟨fd_read_sheet, G_read_sheet, b_read_sheet, k_read_sheet⟩ := ok_read_sheet (P := P) (w := w) (base := base) T
  refine OkD.mk T.f_law_right sc_law_right (fun _ _ _ _ _ _ us hl => match us, hl with | [_], _ => rfl) (fun vs H Q E h => ?_) (fun cdv A outer s H vs Q E hr h => ?_)
  · obtain ⟨x, rfl, _⟩ := h
    rfl
  · obtain ⟨x, rfl, hx, k⟩ := h
    have hr_Sheet_init : Room 6 _ := hr.mono (by decide)
    have hr_Sheet_text : Room 4 _ := hr.mono (by decide)
    have hr_law_cues_right : Room 5 _ := hr.mono (by decide)
    have hr_law_read : Room 3 _ := hr.mono (by decide)
    have hr_law_said : Room 8 _ := hr.mono (by decide)
    have hr_read_sheet : Room 7 _ := hr.mono (by decide)
    refine ⟨_, (pss_cons (ps_set (i := 1) sc_law_right.nd rfl (Or.inl rfl) (pe_call G_law_read hr_law_read (by rfl) T.g_law_read k_law_read b_law_read .nil pass0 (pa_cons (pv 0) pa_nil)))
      (pss_cons (ps_set (i := 2) sc_law_right.nd rfl (Or.inl rfl) (pe_call G_law_said hr_law_said (by rfl) T.g_law_said k_law_said b_law_said .nil pass0 (pa_cons (pv 0) pa_nil)))
      (pss_cons (ps_if (pt_not (pt_val (pe_callB call_isi (by rfl) T.b_isinstance bv_isinstance (pa_cons (pv 1) (pa_cons (pe_bltn (v := .ty "list") (by rfl) T.b_list bv_list rfl) pa_nil)))))
        (pss_one (ps_ret (pe_cmpR op_eq (pv 2) (pe_op op_add_str pe_str (pe_callTy call_str_int (by rfl) T.b_str bv_str (pa_cons (pv 1) pa_nil))) (by first | exact nomark _ | rfl))))
        pss_nil)
      (pss_cons (ps_if (PW.pt (pw_or (pt_not (pt_val (pe_callB call_isi (by rfl) T.b_isinstance bv_isinstance (pa_cons (pv 2) (pa_cons (pe_glob (v := .ref (He.ga K "Sheet")) (by rfl) T.g_Sheet rfl) pa_nil))))) (pw_or (pt_not (pt_val (pe_call G_law_cues_right hr_law_cues_right (by rfl) T.g_law_cues_right k_law_cues_right b_law_cues_right .nil pass0 (pa_cons (pv 2) (pa_cons (pv 1) pa_nil))))) (pw_or1 (pt_not (pt_val (pe_call G_law_cues_right hr_law_cues_right (by rfl) T.g_law_cues_right k_law_cues_right b_law_cues_right .nil pass0 (pa_cons (pe_make T.mk_Sheet G_Sheet_init hr_Sheet_init (by rfl) T.g_Sheet b_Sheet_init .nil pass0 (pa_cons (pv 1) pa_nil)) (pa_cons (pv 1) pa_nil)))))))))
        (pss_one (ps_ret pe_bl))
        pss_nil)
      (pss_one (ps_ret (pe_and (pe_cmpR op_eq (pe_meth0 (pv 2) T.cl_Sheet T.m_Sheet_text G_Sheet_text hr_Sheet_text b_Sheet_text .nil pass0) (pv 0) (by first | exact nomark _ | rfl)) (pe_one (pe_call G_law_cues_right hr_law_cues_right (by rfl) T.g_law_cues_right k_law_cues_right b_law_cues_right .nil pass0 (pa_cons (pe_call G_read_sheet hr_read_sheet (by rfl) T.g_read_sheet k_read_sheet b_read_sheet .nil passL (pa_cons (pe_meth0 (pv 2) T.cl_Sheet T.m_Sheet_text G_Sheet_text hr_Sheet_text b_Sheet_text .nil pass0) pa_nil)) (pa_cons (pv 1) pa_nil))))))))))), ?_⟩
    cases er : readOf x with
    | inl n =>
      have hn := readOf_le er
      refine ⟨_, rfl, x, rfl, hx, fun n' H1 e s1 => ?_, fun l es cs H1 e _ => (by rw [er] at e; cases e)⟩
      have en : n = n' := by
        rw [er] at e
        injection e
      subst en
      refine ⟨_, rfl, .inl ⟨x, rfl, hx, fun n2 H2 e2 s2 => ?_, fun cs p H2 e2 _ _ => (by rw [er] at e2; cases e2)⟩⟩
      have en : n = n2 := by
        rw [er] at e2
        injection e2
      subst en
      refine ⟨_, rfl, _, _, _, _, false, rfl, .ty _, .base (.int _), kit_ty (by decide +kernel), false, rfl, iteT ?_⟩
      refine ⟨_, rfl, _, rfl, _, rfl, log_ok (by omega) (by omega), _, _, rfl, rfl, ?_, rfl, ?_⟩
      · rw [rowW_len]
        have h11 : (Str.ofString (toString (n : Int))).length ≤ 11 := numS_len (by omega) (by omega)
        have big : 1000 < sizeLine := by decide
        omega
      · show Q (.bl (decide (V.str (Str.ofString "row " ++ numS (n : Int)) = V.str (Str.ofString "row " ++ Str.ofString (toString (n : Int)))))) H2
        rw [decide_eq_true rfl]
        exact k H2 (s1.trans s2)
    | inr cs =>
      obtain ⟨S, ex⟩ := readOf_ok er
      refine ⟨_, rfl, x, rfl, hx, fun n' H1 e s1 => (by rw [er] at e; cases e), fun l es cs' H1 e O => ?_⟩
      have ec : cs = cs' := by
        rw [er] at e
        injection e
      subst ec
      refine ⟨_, rfl, .inl ⟨x, rfl, hx, fun n2 H2 e2 s2 => (by rw [er] at e2; cases e2), fun cs' p H2 e2 s2 A => ?_⟩⟩
      have ec : cs = cs' := by
        rw [er] at e2
        injection e2
      subst ec
      have C2 := O.at_.same s2
      have s02 := O.same.trans s2
      refine ⟨_, rfl, _, _, _, _, true, rfl, .ty _, .base (.lst C2.1), kit_ty (by decide +kernel), true, rfl, iteF ?_⟩
      refine ⟨_, rfl, _, _, _, _, true, rfl, .own _, is_sheet T A, T.sh.isSh, true, rfl, iteF ?_⟩
      refine ⟨_, rfl, _, rfl, p, l, es, cs, rfl, A, S, C2, fun H3 s3 => ⟨true, rfl, iteF ?_⟩⟩
      have C3 := C2.same s3
      have A3 := A.same s3
      -- Sheet(due)
      refine ⟨_, rfl, fun q dq hq hdq nq => ?_⟩
      have t1 : Same H3 (upd (upd H3 dq (.own q)) q (.ins (He.ga K "Sheet") dq [])) := fun b o eb => by
        rw [upd_ne (ne_of_none eb hq), upd_ne (ne_of_none eb hdq)]
        exact eb
      refine ⟨q, dq, l, es, cs, rfl, upd_same, C3.same t1, S, fun H4 A4 kp => ⟨rfl, ?_⟩⟩
      have s34 : Same H3 H4 := fun b o eb => kp b o (t1 _ _ eb) (ne_of_none eb hq)
      have C4 := C3.same s34
      refine ⟨_, rfl, q, l, es, cs, rfl, A4, S, C4, fun H5 s5 => ⟨true, rfl, iteF ?_⟩⟩
      have s35 := s34.trans s5
      have A5 := A3.same s35
      obtain ⟨dx, d1, d2, ls, hp5, _⟩ := A5.ex
      refine ⟨_, rfl, p, dx, _, rfl, hp5, shF_no d1 d2 (by decide +kernel) (by decide +kernel), p, cs, rfl, A5, S, fun H6 s6 => ?_⟩
      have A6 := A5.same s6
      refine ⟨_, rfl, rfl, _, rfl, iteDT (by rw [ex]) ?_⟩
      have hp6 := s6 _ _ hp5
      refine ⟨_, rfl, p, dx, _, rfl, hp6, shF_no d1 d2 (by decide +kernel) (by decide +kernel), p, cs, rfl, A6, S, fun H7 s7 => .inl ⟨_, rfl, by rw [ex]; exact hx, fun n2 H8 d e8 _ _ => ?_, fun cs' p' H8 e8 s8 A8 => ?_⟩⟩
      · rw [ex, er] at e8
        cases e8
      have ec : cs = cs' := by
        rw [ex, er] at e8
        injection e8
      subst ec
      have s38 := ((s35.trans s6).trans s7).trans s8
      exact ⟨_, rfl, p', l, es, cs, rfl, A8, S, C3.same s38, fun H9 s9 => k H9 (((s02.trans s3).trans s38).trans s9)⟩
end
end Fw

/-! ==== FwL15 ==== -/
set_option Elab.async false
set_option linter.all false
set_option maxRecDepth 100000
set_option maxHeartbeats 4000000
/-! the law itself -/
namespace Fw
open PySem PySem.Spec PyProof.Rows L2 TL
section
variable {P : Program} {w : World} {K : PySem.W.Frag} {mg : Str → Option Value} {base : Heap}
def isInl (s : Sum Nat (List Cue)) (k : Nat) : Bool := match s with
  | .inl j => j == k
  | _ => false
theorem isInl_ok {s : Sum Nat (List Cue)} {k : Nat} (h : isInl s k = true) : s = .inl k := by
  cases s with
  | inl j => rw [eq_of_beq (show (j == k) = true from h)]
  | inr c => cases h
theorem read_empty : readOf (Str.ofString "") = .inl 1 := isInl_ok (by decide +kernel)
theorem read_cue : readOf (Str.ofString "cue a") = .inl 2 := isInl_ok (by decide +kernel)
theorem row_one : Str.ofString "row " ++ numS 1 = Str.ofString "row 1" := by decide +kernel
theorem row_two : Str.ofString "row " ++ numS 2 = Str.ofString "row 2" := by decide +kernel
theorem merge_st (a : Addr) (z : Int) : mergeK [] (stD a z) = stD a z := by
  have h : putK [(kCells, V.ref a)] kAt (V.int z) = stD a z := by
    rw [putK_new _ (by rw [valV_neg kca] <;> rfl)] <;> rfl
  exact h
/-- a def kept whatever the base -/
def OkA (P : Program) (w : World) (K : PySem.W.Frag) (mg : Str → Option Value) (k : Nat) (p : Str × Option Str) (ps : List Str) (sp : Sp) : Prop :=
  ∃ fd, (∀ base, FnOk P w K mg base CX0 k (He.fAd K p) fd ps sp) ∧ ∀ (s : Shared) (us : List Value), us.length = ps.length → BindsTo s fd ⟨us, []⟩ (ps.zip us)
theorem OkA.mk {x qual : Str} {st : Stmt} {p : Str × Option Str} {N ps : List Str} {k : Nat} {sp : Sp} (F : FunI K x qual st (He.fAd K p)) (S : FnScope N ps (defScope st))
    (hb : ∀ (kV doc pm : Value) (an : Option Addr) (cdv ct : Value) (us : List Value), us.length = ps.length → bindArgs (PySem.W.fnOf x qual (defArgs st) (defBody st) (defScope st) .none kV doc pm an cdv ct) ⟨us, []⟩ = pure (ps.zip us))
    (len : ∀ vs H Q E, sp vs H Q E → vs.length = ps.length)
    (hbody : ∀ (base : Heap) (cdv : Value) (A : Around) (outer : List Env) (s : Shared) (H : Hp) (vs : List V) (Q : VK) (E : XK), Room k (A.deeper (envOfC qual (defScope st) s.heap.objs.size (He.fAd K p) cdv)) → sp vs H Q E →
      ∃ t, PSs (cxOf CX0 P w K mg base N qual (defScope st) (He.fAd K p) cdv A outer s H E).nox (defBody st) t ∧ t { nx := fun _ H' => Q .non H', rt := Q } (start N vs) H) : OkA P w K mg (k + 1) p ps sp := by
  obtain ⟨fd, F⟩ := F
  refine ⟨fd, fun base => F.ok S len (hbody base), fun s us hl => ?_⟩
  obtain ⟨oc, od, kV, doc, pm, an, cdv, ct, osl, rfl, lk, hcd⟩ := F.ex
  exact .of_eq (hb kV doc pm an cdv ct us hl)
def spLaw (K : PySem.W.Frag) : Sp := fun vs H Q _ => ∃ (a : Addr) (ns : List Int), vs = [.ref a] ∧ SqL K H a (ns.map V.int) ∧ ns.length ≤ 63 ∧ ∀ H', Q (.bl true) H'
abbrev nn_law : List Str := ["_law_script", "_law_state", "_law_more", "_law_turn", "_law_names_here", "_law_bounds_here", "_law_number_here", "_law_cues_here", "_law_text_here", "_law_bent_here", "_law_odd"]
theorem sc_law : FnScope nn_law ["_law_script"] (defScope s_law) := ⟨rfl, rfl, rfl, by decide +kernel, rfl, by decide +kernel, by decide +kernel⟩
theorem ok_law (T : Tx K mg) : OkA P w K mg 10 ("law", none) ["_law_script"] (spLaw K) := by
  refine OkA.mk T.f_law sc_law (fun _ _ _ _ _ _ us hl => match us, hl with | [_], _ => rfl) (fun vs H Q E h => ?_) (fun base cdv A outer s H vs Q E hr h => ?_)
  · obtain ⟨a, ns, rfl, _⟩ := h
    rfl
  · obtain ⟨a, ns, rfl, hs, h63, k⟩ := h
    obtain ⟨fd_law_bent, G_law_bent, b_law_bent, k_law_bent⟩ := ok_law_bent (P := P) (w := w) (base := base) T
    obtain ⟨fd_law_bounds, G_law_bounds, b_law_bounds, k_law_bounds⟩ := ok_law_bounds (P := P) (w := w) (base := base) T
    obtain ⟨fd_law_cues, G_law_cues, b_law_cues, k_law_cues⟩ := ok_law_cues (P := P) (w := w) (base := base) T
    obtain ⟨fd_law_names, G_law_names, b_law_names, k_law_names⟩ := ok_law_names (P := P) (w := w) (base := base) T
    obtain ⟨fd_law_next, G_law_next, b_law_next, k_law_next⟩ := ok_law_next (P := P) (w := w) (base := base) T
    obtain ⟨fd_law_right, G_law_right, b_law_right, k_law_right⟩ := ok_law_right (P := P) (w := w) (base := base) T
    obtain ⟨fd_law_said, G_law_said, b_law_said, k_law_said⟩ := ok_law_said (P := P) (w := w) (base := base) T
    obtain ⟨fd_law_text, G_law_text, b_law_text, k_law_text⟩ := ok_law_text (P := P) (w := w) (base := base) T
    have hr_law_bent : Room 4 _ := hr.mono (by decide)
    have hr_law_bounds : Room 3 _ := hr.mono (by decide)
    have hr_law_cues : Room 4 _ := hr.mono (by decide)
    have hr_law_names : Room 2 _ := hr.mono (by decide)
    have hr_law_next : Room 1 _ := hr.mono (by decide)
    have hr_law_right : Room 9 _ := hr.mono (by decide)
    have hr_law_said : Room 8 _ := hr.mono (by decide)
    have hr_law_text : Room 1 _ := hr.mono (by decide)
    refine ⟨_, (pss_cons (ps_set (i := 1) sc_law.nd rfl (Or.inl rfl) (pe_disp (pps_cons pe_str (pv 0) (pps_cons pe_str pe_int pps_nil)) (by rfl) (by rfl) (fun z => by cases z) (by decide)))
      (pss_cons (ps_set (i := 2) sc_law.nd rfl (Or.inl rfl) (pe_lst (pa_shorts (n := 10) (by decide +kernel) rfl)))
      (pss_cons (ps_set (i := 2) sc_law.nd rfl (Or.inl rfl) (pe_op op_cat (pv 2) (pe_lst (pa_shorts (n := 7) (by decide +kernel) rfl))))
      (pss_cons (ps_for PassesOwn.never rfl (pi_range1 (by rfl) T.b_range (pa_cons (pe_op op_add pe_int (pe_op op_fdiv (pe_callB call_len_seq (by rfl) T.b_len bv_len (pa_cons (pv 0) pa_nil)) pe_int)) pa_nil)) (pg_name (i := 3) sc_law.nd rfl (Or.inl rfl))
        (pss_cons (ps_set (i := 4) sc_law.nd rfl (Or.inl rfl) (pe_call G_law_names hr_law_names (by rfl) T.g_law_names k_law_names b_law_names .nil pass0 (pa_cons (pv 1) (pa_cons pe_int pa_nil))))
          (pss_cons (ps_set (i := 5) sc_law.nd rfl (Or.inl rfl) (pe_call G_law_bounds hr_law_bounds (by rfl) T.g_law_bounds k_law_bounds b_law_bounds .nil pass0 (pa_cons (pv 1) pa_nil)))
          (pss_cons (ps_set (i := 6) sc_law.nd rfl (Or.inl rfl) (pe_call G_law_next hr_law_next (by rfl) T.g_law_next k_law_next b_law_next .nil pass0 (pa_cons (pv 1) pa_nil)))
          (pss_cons (ps_set (i := 7) sc_law.nd rfl (Or.inl rfl) (pe_call G_law_cues hr_law_cues (by rfl) T.g_law_cues k_law_cues b_law_cues .nil pass0 (pa_cons (pv 1) (pa_cons (pv 4) (pa_cons (pv 5) (pa_cons (pe_op op_add pe_int (pe_op op_mod (pv 6) (pe_ix ix_list (pe_lst (pa_cons pe_int (pa_cons pe_int (pa_cons pe_int pa_nil)))) (pe_op op_mod (pe_op op_fdiv (pv 6) pe_int) pe_int) (fun _ _ => rfl)))) (pa_cons (pe_op op_mod (pe_op op_fdiv (pv 6) pe_int) pe_int) pa_nil)))))))
          (pss_cons (ps_set (i := 8) sc_law.nd rfl (Or.inl rfl) (pe_call G_law_text hr_law_text (by rfl) T.g_law_text k_law_text b_law_text .nil pass0 (pa_cons (pv 7) pa_nil)))
          (pss_cons (ps_set (i := 9) sc_law.nd rfl (Or.inl rfl) (pe_call G_law_bent hr_law_bent (by rfl) T.g_law_bent k_law_bent b_law_bent .nil pass0 (pa_cons (pv 1) (pa_cons (pv 8) (pa_cons (pv 2) pa_nil)))))
          (pss_cons (ps_if (PW.pt (pw_or (pt_not (pt_val (pe_call G_law_right hr_law_right (by rfl) T.g_law_right k_law_right b_law_right .nil pass0 (pa_cons (pv 8) pa_nil)))) (pw_or (pt_not (pt_val (pe_call G_law_right hr_law_right (by rfl) T.g_law_right k_law_right b_law_right .nil pass0 (pa_cons (pv 9) pa_nil)))) (pw_or1 (pt_not (pt_val (pe_call G_law_right hr_law_right (by rfl) T.g_law_right k_law_right b_law_right .nil pass0 (pa_cons (pe_call G_law_bent hr_law_bent (by rfl) T.g_law_bent k_law_bent b_law_bent .nil pass0 (pa_cons (pv 1) (pa_cons (pv 9) (pa_cons (pv 2) pa_nil)))) pa_nil))))))))
            (pss_one (ps_ret pe_bl))
            pss_nil)
          (pss_one (ps_if (pt_not (pt_val (pe_call G_law_right hr_law_right (by rfl) T.g_law_right k_law_right b_law_right .nil pass0 (pa_cons (pe_op op_add_str (pv 8) pe_str) pa_nil))))
            (pss_one (ps_ret pe_bl))
            pss_nil))))))))))
      (pss_cons (ps_set (i := 10) sc_law.nd rfl (Or.inl rfl) (pe_ix ix_list (pe_lst (pa_cons pe_non (pa_cons pe_int (pa_cons pe_bl (pa_cons (pe_lst (pa_cons pe_str pa_nil)) (pa_cons pe_dnewK (pa_cons (pe_tup pa_nil) (pa_cons pe_int (pa_cons pe_bl pa_nil))))))))) (pe_op op_mod (pe_call G_law_next hr_law_next (by rfl) T.g_law_next k_law_next b_law_next .nil pass0 (pa_cons (pv 1) pa_nil)) pe_int) (fun _ _ => rfl)))
      (pss_one (ps_ret (pe_and (pe_cmpR op_eq (pe_call G_law_said hr_law_said (by rfl) T.g_law_said k_law_said b_law_said .nil pass0 (pa_cons (pv 10) pa_nil)) pe_str (by first | exact nomark _ | rfl)) (pe_and (pe_cmpR op_eq (pe_call G_law_said hr_law_said (by rfl) T.g_law_said k_law_said b_law_said .nil pass0 (pa_cons pe_str pa_nil)) pe_str (by first | exact nomark _ | rfl)) (pe_one (pe_cmpR op_eq (pe_call G_law_said hr_law_said (by rfl) T.g_law_said k_law_said b_law_said .nil pass0 (pa_cons pe_str pa_nil)) pe_str (by first | exact nomark _ | rfl)))))))))))), ?_⟩
    intro d hd
    refine ⟨_, rfl, upd_same, stD a 0, rfl, by show 2 ≤ 15; decide, ?_⟩
    rw [merge_st]
    have S1 : St K (upd (upd H d (.dK [])) d (.dK (stD a 0))) d a ns := by
      refine ⟨⟨0, upd_same⟩, fun H' b => ?_⟩
      have go : ∀ {u : Addr} {o : HO}, H u = some o → H' u = some o := fun {u o} e => by
        have n : u ≠ d := ne_of_none e hd
        exact b u o (by rw [upd_ne n, upd_ne n]; exact e) n
      rcases hs with (h | ⟨o, h⟩) | h
      · exact .inl (.inl (go h))
      · exact .inl (.inr ⟨o, go h⟩)
      · exact .inr h
    have big : 100 < sizeLine := by decide
    intro x1 l1 h1
    refine ⟨by rw [List.length_map]; omega, fun q1 f1 => ?_⟩
    have S2 := S1.same (same_new (o := .lst (x1.map V.str)) f1)
    refine ⟨_, rfl, ?_⟩
    intro x2 l2 h2
    refine ⟨by rw [List.length_map]; omega, fun q2 f2 => ?_⟩
    have s2 := same_new (o := .lst (x2.map V.str)) f2
    have S3 := S2.same s2
    refine ⟨q1, q2, _, _, rfl, rfl, s2 _ _ upd_same, upd_same, by rw [List.length_map, List.length_map]; omega, fun m fm => ?_⟩
    rw [← List.map_append]
    have S4 := S3.same (same_new (o := .lst ((x1 ++ x2).map V.str)) fm)
    have hms : x1 ++ x2 ≠ [] := fun z => by
      have := congrArg List.length z
      rw [List.length_append, l1, l2] at this
      cases this
    have h16 : ∀ x ∈ x1 ++ x2, x.length ≤ 16 := fun x hx => by
      rcases List.mem_append.mp hx with hx | hx
      · exact h1 x hx
      · exact h2 x hx
    have hlen : (ns.map V.int).length ≤ 63 := by
      rw [List.length_map]
      exact h63
    refine ⟨_, rfl, a, _, rfl, .inl (S4.2 _ (But.refl _ _)), _, _, rfl, rfl, ⟨by decide, by decide⟩, _, _, rfl, rfl, _, rfl, by omega, by omega, ?_⟩
    refine for_it (walk_range (lo := 0)) (fun i σ H2 => ∃ (v3 v4 v5 v6 v7 v8 v9 : Option V), σ = [some (.ref a), some (.ref d), some (.ref m), v3, v4, v5, v6, v7, v8, v9, none] ∧ St K H2 d a ns ∧ H2 m = some (.lst ((x1 ++ x2).map V.str))) ?_ ?_ ?_ ?_
    · exact ⟨none, none, none, none, none, none, none, rfl, S4, upd_same⟩
    · exact fun _ _ _ _ _ => trivial
    · rintro i x σ H2x H2 hi ⟨v3, v4, v5, v6, v7, v8, v9, rfl, T2, em⟩ ⟨rfl, rfl⟩
      refine ⟨_, rfl, d, a, ns, 13, rfl, ⟨by decide, by decide⟩, T2, fun nl xs H3 hx hsm hnd g3 enl _ => ?_⟩
      have T3 := T2.go g3
      have em3 := Go.lst T2 T2.refl g3 em
      refine ⟨_, rfl, d, a, ns, rfl, T3, fun bl ps H4 hps B4 g4 blH => ?_⟩
      have nbd : bl ≠ d := (T3.new blH).symm
      have T4 := T3.go g4
      have em4 := Go.lst T3 T3.refl g4 em3
      have enl4 := Go.lst T3 T3.refl g4 enl
      refine ⟨_, rfl, d, a, ns, rfl, T4, fun n H5 n0 n1 g5 => ?_⟩
      have T5 := T4.go g5
      have em5 := Go.lst T4 T4.refl g5 em4
      have enl5 := Go.lst T4 T4.refl g5 enl4
      have B5 := B4.go T4 g5 nbd
      have q3 := mod_in (n / 13) (n := 3) (by decide)
      obtain ⟨y3, hy3, ey3⟩ := ix_in (xs := [V.int 2, V.int 4, V.int 13]) q3.1 q3.2
      obtain ⟨m3, rfl, hm3⟩ : ∃ m3 : Int, y3 = .int m3 ∧ 1 ≤ m3 ∧ m3 ≤ 13 := by
        simp only [List.mem_cons, List.not_mem_nil, or_false] at hy3
        rcases hy3 with rfl | rfl | rfl
        · exact ⟨_, rfl, by decide, by decide⟩
        · exact ⟨_, rfl, by decide, by decide⟩
        · exact ⟨_, rfl, by decide, by decide⟩
      have qm := mod_in n (n := m3) (by omega)
      have q2' := mod_in (n / 39) (n := 2) (by decide)
      refine ⟨_, rfl, _, rfl, _, rfl, _, rfl, by show 3 ≤ sizeLine; omega, fun q hq => ?_⟩
      have s6 := same_new (o := .lst [V.int 2, V.int 4, V.int 13]) hq
      have g6 := T5.refl.on s6
      have T6 := T5.go g6
      have em6 := s6 _ _ em5
      refine ⟨_, rfl, _, _, rfl, rfl, ⟨by decide, by decide⟩, _, _, rfl, rfl, pos (by decide), q, _, _, _, rfl, rfl, SqL.of upd_same, ey3, _, _, rfl, rfl, pos (by omega), _, _, rfl, rfl, ?_⟩
      refine ⟨_, rfl, _, _, rfl, rfl, ⟨by decide, by decide⟩, _, _, rfl, rfl, pos (by decide), d, a, nl, bl, ns, _, _, xs, ps, rfl, ⟨by omega, by omega⟩, ⟨q2'.1, by omega⟩, T6, s6 _ _ enl5, hx, hsm, B5.go T5 g6 nbd, hps, nbd, fun cl es cs H7 C lc sm g7 _ => ?_⟩
      have T7 := T6.go g7
      have em7 := Go.lst T6 T6.refl g7 em6
      have lt : (sheetText cs).length ≤ 6396 := Nat.le_trans (sheetText_len sm) (by omega)
      refine ⟨_, rfl, cl, es, cs, rfl, C, sm, lc, fun H8 s8 => ?_⟩
      have T8 := T7.same s8
      have em8 := s8 _ _ em7
      refine ⟨_, rfl, _, rfl, _, rfl, d, a, m, ns, sheetText cs, x1 ++ x2, rfl, T8, by omega, em8, hms, h16, fun y H9 ly g9 => ?_⟩
      have T9 := T8.go g9
      have em9 := Go.lst T8 T8.refl g9 em8
      refine ⟨_, rfl, _, rfl, by omega, fun H10 s10 => ⟨true, rfl, iteF ?_⟩⟩
      refine ⟨_, rfl, _, rfl, by omega, fun H11 s11 => ⟨true, rfl, iteF ?_⟩⟩
      have s911 := s10.trans s11
      have T11 := T9.same s911
      have em11 := s911 _ _ em9
      refine ⟨_, rfl, _, rfl, _, rfl, d, a, m, ns, y, x1 ++ x2, rfl, T11, by omega, em11, hms, h16, fun y2 H12 ly2 g12 => ⟨_, rfl, by omega, fun H13 s13 => ⟨true, rfl, iteF ?_⟩⟩⟩
      have T12 := T11.go g12
      have em12 := Go.lst T11 T11.refl g12 em11
      refine ⟨_, rfl, _, _, rfl, rfl, ?_, _, rfl, ?_, fun H14 s14 => ⟨true, rfl, iteF ?_⟩⟩
      · have := ten_line
        rw [nl_len]
        omega
      · rw [PySem.Str.length_append, nl_len]
        omega
      · have s24 := s13.trans s14
        exact ⟨_, _, _, _, _, _, _, rfl, T12.same s24, s24 _ _ em12⟩
    · rintro σ H2 ⟨v3, v4, v5, v6, v7, v8, v9, rfl, T2, em⟩
      refine ⟨by show 1 ≤ sizeLine; omega, fun q1 h1 => fun q2 h2 => ⟨by show 0 ≤ sizeLine; omega, fun q3 h3 => ⟨by show 8 ≤ sizeLine; omega, fun q4 h4 => ?_⟩⟩⟩
      have u1 := same_new (o := .lst [V.str (Str.ofString "cue a")]) h1
      have u2 := same_new (o := .dK []) h2
      have u3 := same_new (o := .tup []) h3
      have u4 := same_new (o := .lst [V.non, V.int 5, V.bl true, V.ref q1, V.ref q2, V.ref q3, V.int 1, V.bl false]) h4
      have T3 := T2.same u1
      have T4 := T3.same u2
      have T5 := T4.same u3
      have T6 := T5.same u4
      refine ⟨_, rfl, d, a, ns, rfl, T6, fun n H7 n0 n1 g7 => ?_⟩
      have q8 := mod_in n (n := 8) (by decide)
      obtain ⟨z, hz, ez⟩ := ix_in (xs := [V.non, V.int 5, V.bl true, V.ref q1, V.ref q2, V.ref q3, V.int 1, V.bl false]) q8.1 q8.2
      have e4 := Go.lst T6 T6.refl g7 (upd_same (a := q4) (o := .lst [V.non, V.int 5, V.bl true, V.ref q1, V.ref q2, V.ref q3, V.int 1, V.bl false]))
      have e1 := Go.lst T6 T6.refl g7 (u4 _ _ (u3 _ _ (u2 _ _ (upd_same (a := q1) (o := .lst [V.str (Str.ofString "cue a")])))))
      have e2 := g7.1 _ _ (u4 _ _ (u3 _ _ (upd_same (a := q2) (o := .dK [])))) (T3.new h2).symm
      have e3 := g7.1 _ _ (u4 _ _ (upd_same (a := q3) (o := .tup []))) (T4.new h3).symm
      obtain ⟨t, ty, kt⟩ : ∃ t : String, TyX K H7 z (.type t) ∧ kitB t "str" = some false := by
        simp only [List.mem_cons, List.not_mem_nil, or_false] at hz
        rcases hz with rfl | rfl | rfl | rfl | rfl | rfl | rfl | rfl
        · exact ⟨_, .base .non, by decide +kernel⟩
        · exact ⟨_, .base (.int _), by decide +kernel⟩
        · exact ⟨_, .base (.bl _), by decide +kernel⟩
        · exact ⟨_, .base (.lst e1), by decide +kernel⟩
        · exact ⟨_, .base (.dK e2), by decide +kernel⟩
        · exact ⟨_, .base (.tup e3), by decide +kernel⟩
        · exact ⟨_, .base (.int _), by decide +kernel⟩
        · exact ⟨_, .base (.bl _), by decide +kernel⟩
      refine ⟨_, _, rfl, rfl, pos (by decide), q4, _, _, z, rfl, rfl, SqL.of e4, ez, ?_⟩
      refine ⟨_, rfl, .inr ⟨z, t, rfl, ty, kt, fun H8 s8 => ⟨rfl, _, rfl, iteDT (by rw [row_one]) ?_⟩⟩⟩
      refine .inl ⟨_, rfl, by decide +kernel, fun k1 H9 er s9 => ?_, fun cs p H9 er _ _ => (by rw [read_empty] at er; cases er)⟩
      rw [read_empty] at er
      injection er with er
      subst er
      refine ⟨rfl, _, rfl, iteDT (by rw [show Str.ofString "row " ++ numS ((1 : Nat) : Int) = Str.ofString "row 1" from row_one]) ?_⟩
      refine .inl ⟨_, rfl, by decide +kernel, fun k2 H10 er s10 => ?_, fun cs p H10 er _ _ => (by rw [read_cue] at er; cases er)⟩
      rw [read_cue] at er
      injection er with er
      subst er
      refine ⟨rfl, ?_⟩
      have fin := k H10
      rw [← show decide (V.str (Str.ofString "row " ++ numS ((2 : Nat) : Int)) = V.str (Str.ofString "row 2")) = true from decide_eq_true (congrArg V.str row_two)] at fin
      exact fin
end
end Fw

/-! ==== FwEnd ==== -/
set_option Elab.async false
set_option linter.all false
set_option maxRecDepth 100000
set_option maxHeartbeats 0
/-! the end: the row from the walk of the law -/
open PySem PySem.W PySem.Calls PyProof.Rows
theorem PySem.Challenge.cw_flywright_k10_whole_sheets_to_text_and_b_holds : PySem.Challenge.rw_flywright_k10_whole_sheets_to_text_and_b.Holds := by
  w_on; o_law
  refine HandSHeadRun.head_any (r := OpenLaw.row PySem.Challenge.rw_flywright_k10_whole_sheets_to_text_and_b) (q := view (OpenLaw.row PySem.Challenge.rw_flywright_k10_whole_sheets_to_text_and_b).prog [61]) (H := Fw.hookZ) (ob := Fw.ob) (M := 6000) (loose := Fw.names) (d := HandSHeadRun.topDef (OpenLaw.row PySem.Challenge.rw_flywright_k10_whole_sheets_to_text_and_b).prog 61) (kwd := []) Fw.ob_eq
    (by kernel_rfl) (fun s => by kernel_rfl) Fw.run (by kernel_rfl) (by kernel_rfl) (by kernel_rfl) (by rfl) (by first | assumption | decide +kernel) (by decide +kernel) ⟨rfl, rfl, rfl, rfl, rfl, by decide +kernel⟩ ?hw ?hc
  case hw => w_witness2
  case hc =>
    refine L2.walk_ofE (l := PySem.Challenge.rw_flywright_k10_whole_sheets_to_text_and_b) (n := 63) (k := 10) (x := "_law_script") (CX := L2.CX0) rfl (by decide) (by kernel_rfl) ⟨rfl, by decide, by decide⟩ ?F (fun _ _ _ _ z => z)
    intro w mg fa h Y G hmg0
    obtain ⟨K, KX, c⟩ := Y
    have hmg : mg ("law" : PySem.Str) = some (.ref fa) := by
      have e : (HandSHeadRun.topDef (OpenLaw.row PySem.Challenge.rw_flywright_k10_whole_sheets_to_text_and_b).prog 61).name = ("law" : PySem.Str) := by kernel_rfl
      rw [← e]
      exact hmg0
    have T : Fw.Tx K mg := Fw.tx_of KX G c
    have z := Option.some.inj (hmg.symm.trans T.g_law)
    injection z with z
    subst z
    obtain ⟨fd, hF, hb⟩ := Fw.ok_law (P := (PySem.Challenge.rw_flywright_k10_whole_sheets_to_text_and_b).prog) (w := w) T
    exact ⟨K, fd, Fw.spLaw K, KX, fun s u => hb s [u] rfl, fun H a ns hl _ hS => ⟨a, ns, rfl, hS, hl, fun _ => rfl⟩, fun base _ _ => hF base⟩

