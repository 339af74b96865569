import PyProof.Rows.All
import Wide.All
import OpenK.AllK
import Wide.FinOn
import KE.KStateDown
import HandS.ForMost
import HandS.WordsExc
import HandS.Defaults
import HandS.Head0
import HandS.Head1
import HandS.Head2
import HandS.HeadEnd
import HandS.HeadHook1
import HandS.HeadHook2
import HandS.DictComp
import HandS.WordsList
import HandS.Walk
import HandS.IsInst
import HandS.Codes
import HandS.Style
import HandS.Deep
import HandS.Wide
import HandS.TupLe
import HandS.TupLen
import HandS.TupAny
import KE.SortData
import KE.KDictSum
import KE.KDictCopyH
import PyProof.CollectStr
import PyProof.Transfer
import Wide.Seal
import PyProof.DictCompW
import HandS.OwnEq
import PyProof.Rows.Range3
import HandS.TupSets
import KE.DataFind
import PyProof.Draws
import KE.GoesMore
import KE.KDictKeyed
import PySem.Challenge.RW_passtexts_k02_whole_thrifty
set_option Elab.async false
set_option linter.all false
set_option maxRecDepth 100000
set_option maxHeartbeats 4000000
namespace K02
open PySem PySem.Spec PyProof.Rows L2
def tp (i : Nat) : Stmt := PySem.Challenge.pw_passtexts_k02_whole_thrifty.main.body.getD i (.Pass ⟨0, 0, 0, 0⟩)
abbrev s_is_whole : Stmt := tp 11
abbrev s_is_word : Stmt := tp 12
abbrev s_is_signs : Stmt := tp 13
abbrev s_are_letters : Stmt := tp 14
abbrev s_is_row : Stmt := tp 15
abbrev s_joined : Stmt := tp 16
abbrev s_registers_in : Stmt := tp 17
abbrev s_text_of : Stmt := tp 18
abbrev s_is_step : Stmt := tp 19
abbrev s_whole_rows : Stmt := tp 20
abbrev s_Program_init : Stmt := inClass (tp 21) 0
abbrev s_Program_check : Stmt := inClass (tp 21) 2
abbrev s_Program_after : Stmt := inClass (tp 21) 3
abbrev s_Program_reached : Stmt := inClass (tp 21) 5
abbrev s_check_program : Stmt := tp 22
abbrev s_has_twice : Stmt := tp 25
abbrev s_is_plain : Stmt := tp 26
abbrev s_backwards : Stmt := tp 27
abbrev s_uses_of : Stmt := tp 28
abbrev s_Thrifty_init : Stmt := inClass (tp 29) 0
abbrev s_Thrifty_eq : Stmt := inClass (tp 29) 1
abbrev s_Thrifty_bool : Stmt := inClass (tp 29) 2
abbrev s_Thrifty_shows : Stmt := inClass (tp 29) 3
abbrev s_is_listed : Stmt := tp 30
abbrev s_Twice_init : Stmt := inClass (tp 31) 0
abbrev s_Twice_eq : Stmt := inClass (tp 31) 1
abbrev s_Twice_bool : Stmt := inClass (tp 31) 2
abbrev s_Twice_shows : Stmt := inClass (tp 31) 3
abbrev s_count_of : Stmt := tp 32
abbrev s_first_text : Stmt := tp 33
abbrev s_judge_thrifty : Stmt := tp 34
abbrev s_first_twice : Stmt := tp 35
abbrev s__law_cell_at : Stmt := tp 37
abbrev s__law_draw : Stmt := tp 38
abbrev s__law_number : Stmt := tp 39
abbrev s__law_next : Stmt := tp 40
abbrev s__law_pick : Stmt := tp 41
abbrev s__law_rows : Stmt := tp 42
abbrev s__law_end : Stmt := tp 43
abbrev s__law_program : Stmt := tp 44
abbrev s__law_write : Stmt := tp 45
abbrev s__law_uses : Stmt := tp 46
abbrev s__law_has_twice : Stmt := tp 47
abbrev s__law_reached : Stmt := tp 48
abbrev s__law_lives : Stmt := tp 49
abbrev s_law : Stmt := tp 50
def d_is_whole : He.DefD := ⟨("is_whole", none), "is_whole", "is_whole", defArgs s_is_whole, defBody s_is_whole, defScope s_is_whole, [], []⟩
def d_is_word : He.DefD := ⟨("is_word", none), "is_word", "is_word", defArgs s_is_word, defBody s_is_word, defScope s_is_word, [], []⟩
def d_is_signs : He.DefD := ⟨("is_signs", none), "is_signs", "is_signs", defArgs s_is_signs, defBody s_is_signs, defScope s_is_signs, [], []⟩
def d_are_letters : He.DefD := ⟨("are_letters", none), "are_letters", "are_letters", defArgs s_are_letters, defBody s_are_letters, defScope s_are_letters, [], []⟩
def d_is_row : He.DefD := ⟨("is_row", none), "is_row", "is_row", defArgs s_is_row, defBody s_is_row, defScope s_is_row, [], []⟩
def d_joined : He.DefD := ⟨("joined", none), "joined", "joined", defArgs s_joined, defBody s_joined, defScope s_joined, [], []⟩
def d_registers_in : He.DefD := ⟨("registers_in", none), "registers_in", "registers_in", defArgs s_registers_in, defBody s_registers_in, defScope s_registers_in, [], []⟩
def d_text_of : He.DefD := ⟨("text_of", none), "text_of", "text_of", defArgs s_text_of, defBody s_text_of, defScope s_text_of, [], []⟩
def d_is_step : He.DefD := ⟨("is_step", none), "is_step", "is_step", defArgs s_is_step, defBody s_is_step, defScope s_is_step, [], []⟩
def d_whole_rows : He.DefD := ⟨("whole_rows", none), "whole_rows", "whole_rows", defArgs s_whole_rows, defBody s_whole_rows, defScope s_whole_rows, [], []⟩
def d_Program_init : He.DefD := ⟨("Program", some "__init__"), "__init__", "Program.__init__", defArgs s_Program_init, defBody s_Program_init, defScope s_Program_init, [], []⟩
def d_Program_check : He.DefD := ⟨("Program", some "check"), "check", "Program.check", defArgs s_Program_check, defBody s_Program_check, defScope s_Program_check, [], []⟩
def d_Program_after : He.DefD := ⟨("Program", some "after"), "after", "Program.after", defArgs s_Program_after, defBody s_Program_after, defScope s_Program_after, [], []⟩
def d_Program_reached : He.DefD := ⟨("Program", some "reached"), "reached", "Program.reached", defArgs s_Program_reached, defBody s_Program_reached, defScope s_Program_reached, [], []⟩
def d_check_program : He.DefD := ⟨("check_program", none), "check_program", "check_program", defArgs s_check_program, defBody s_check_program, defScope s_check_program, [], []⟩
def d_has_twice : He.DefD := ⟨("has_twice", none), "has_twice", "has_twice", defArgs s_has_twice, defBody s_has_twice, defScope s_has_twice, [], []⟩
def d_is_plain : He.DefD := ⟨("is_plain", none), "is_plain", "is_plain", defArgs s_is_plain, defBody s_is_plain, defScope s_is_plain, [], []⟩
def d_backwards : He.DefD := ⟨("backwards", none), "backwards", "backwards", defArgs s_backwards, defBody s_backwards, defScope s_backwards, [], []⟩
def d_uses_of : He.DefD := ⟨("uses_of", none), "uses_of", "uses_of", defArgs s_uses_of, defBody s_uses_of, defScope s_uses_of, [], []⟩
def d_Thrifty_init : He.DefD := ⟨("Thrifty", some "__init__"), "__init__", "Thrifty.__init__", defArgs s_Thrifty_init, defBody s_Thrifty_init, defScope s_Thrifty_init, [], []⟩
def d_Thrifty_eq : He.DefD := ⟨("Thrifty", some "__eq__"), "__eq__", "Thrifty.__eq__", defArgs s_Thrifty_eq, defBody s_Thrifty_eq, defScope s_Thrifty_eq, [], []⟩
def d_Thrifty_bool : He.DefD := ⟨("Thrifty", some "__bool__"), "__bool__", "Thrifty.__bool__", defArgs s_Thrifty_bool, defBody s_Thrifty_bool, defScope s_Thrifty_bool, [], []⟩
def d_Thrifty_shows : He.DefD := ⟨("Thrifty", some "shows"), "shows", "Thrifty.shows", defArgs s_Thrifty_shows, defBody s_Thrifty_shows, defScope s_Thrifty_shows, [], []⟩
def d_is_listed : He.DefD := ⟨("is_listed", none), "is_listed", "is_listed", defArgs s_is_listed, defBody s_is_listed, defScope s_is_listed, [], []⟩
def d_Twice_init : He.DefD := ⟨("Twice", some "__init__"), "__init__", "Twice.__init__", defArgs s_Twice_init, defBody s_Twice_init, defScope s_Twice_init, [], []⟩
def d_Twice_eq : He.DefD := ⟨("Twice", some "__eq__"), "__eq__", "Twice.__eq__", defArgs s_Twice_eq, defBody s_Twice_eq, defScope s_Twice_eq, [], []⟩
def d_Twice_bool : He.DefD := ⟨("Twice", some "__bool__"), "__bool__", "Twice.__bool__", defArgs s_Twice_bool, defBody s_Twice_bool, defScope s_Twice_bool, [], []⟩
def d_Twice_shows : He.DefD := ⟨("Twice", some "shows"), "shows", "Twice.shows", defArgs s_Twice_shows, defBody s_Twice_shows, defScope s_Twice_shows, [], []⟩
def d_count_of : He.DefD := ⟨("count_of", none), "count_of", "count_of", defArgs s_count_of, defBody s_count_of, defScope s_count_of, [], []⟩
def d_first_text : He.DefD := ⟨("first_text", none), "first_text", "first_text", defArgs s_first_text, defBody s_first_text, defScope s_first_text, [], []⟩
def d_judge_thrifty : He.DefD := ⟨("judge_thrifty", none), "judge_thrifty", "judge_thrifty", defArgs s_judge_thrifty, defBody s_judge_thrifty, defScope s_judge_thrifty, [], []⟩
def d_first_twice : He.DefD := ⟨("first_twice", none), "first_twice", "first_twice", defArgs s_first_twice, defBody s_first_twice, defScope s_first_twice, [], []⟩
def d__law_cell_at : He.DefD := ⟨("_law_cell_at", none), "_law_cell_at", "_law_cell_at", defArgs s__law_cell_at, defBody s__law_cell_at, defScope s__law_cell_at, [], []⟩
def d__law_draw : He.DefD := ⟨("_law_draw", none), "_law_draw", "_law_draw", defArgs s__law_draw, defBody s__law_draw, defScope s__law_draw, [], []⟩
def d__law_number : He.DefD := ⟨("_law_number", none), "_law_number", "_law_number", defArgs s__law_number, defBody s__law_number, defScope s__law_number, [], []⟩
def d__law_next : He.DefD := ⟨("_law_next", none), "_law_next", "_law_next", defArgs s__law_next, defBody s__law_next, defScope s__law_next, [], []⟩
def d__law_pick : He.DefD := ⟨("_law_pick", none), "_law_pick", "_law_pick", defArgs s__law_pick, defBody s__law_pick, defScope s__law_pick, [], []⟩
def d__law_rows : He.DefD := ⟨("_law_rows", none), "_law_rows", "_law_rows", defArgs s__law_rows, defBody s__law_rows, defScope s__law_rows, [], []⟩
def d__law_end : He.DefD := ⟨("_law_end", none), "_law_end", "_law_end", defArgs s__law_end, defBody s__law_end, defScope s__law_end, [], []⟩
def d__law_program : He.DefD := ⟨("_law_program", none), "_law_program", "_law_program", defArgs s__law_program, defBody s__law_program, defScope s__law_program, [], []⟩
def d__law_write : He.DefD := ⟨("_law_write", none), "_law_write", "_law_write", defArgs s__law_write, defBody s__law_write, defScope s__law_write, [], []⟩
def d__law_uses : He.DefD := ⟨("_law_uses", none), "_law_uses", "_law_uses", defArgs s__law_uses, defBody s__law_uses, defScope s__law_uses, [], []⟩
def d__law_has_twice : He.DefD := ⟨("_law_has_twice", none), "_law_has_twice", "_law_has_twice", defArgs s__law_has_twice, defBody s__law_has_twice, defScope s__law_has_twice, [], []⟩
def d__law_reached : He.DefD := ⟨("_law_reached", none), "_law_reached", "_law_reached", defArgs s__law_reached, defBody s__law_reached, defScope s__law_reached, [], []⟩
def d__law_lives : He.DefD := ⟨("_law_lives", none), "_law_lives", "_law_lives", defArgs s__law_lives, defBody s__law_lives, defScope s__law_lives, [], []⟩
def d_law : He.DefD := ⟨("law", none), "law", "law", defArgs s_law, defBody s_law, defScope s_law, [], []⟩
def fns1 : List He.DefD := [d_is_whole, d_is_word, d_is_signs, d_are_letters, d_is_row, d_joined, d_registers_in, d_text_of, d_is_step, d_whole_rows, d_Program_init, d_Program_check, d_Program_after, d_Program_reached, d_check_program, d_has_twice, d_is_plain, d_backwards, d_uses_of, d_Thrifty_init, d_Thrifty_eq, d_Thrifty_bool, d_Thrifty_shows]
def fns2 : List He.DefD := [d_is_listed, d_Twice_init, d_Twice_eq, d_Twice_bool, d_Twice_shows, d_count_of, d_first_text, d_judge_thrifty, d_first_twice, d__law_cell_at, d__law_draw, d__law_number, d__law_next, d__law_pick, d__law_rows, d__law_end, d__law_program, d__law_write, d__law_uses, d__law_has_twice, d__law_reached, d__law_lives, d_law]
def fas1 : List He.Fa := [.free "isinstance", .free "int", .free "bool", .free "str", .free "len", .free "all", .free "any", .free "set", .free "tuple", .free "list", .free "dict", .free "range", .free "sorted", .free "enumerate", .glo "is_whole", .glo "is_word", .glo "is_signs", .glo "are_letters", .glo "is_row", .glo "joined", .glo "registers_in", .glo "text_of", .glo "is_step", .glo "whole_rows", .glo "check_program", .glo "has_twice", .glo "is_plain", .glo "backwards", .glo "uses_of", .glo "is_listed", .glo "count_of", .glo "first_text", .glo "judge_thrifty", .glo "first_twice", .glo "_law_cell_at", .glo "_law_draw", .glo "_law_number", .glo "_law_next", .glo "_law_pick", .glo "_law_rows", .glo "_law_end", .glo "_law_program", .glo "_law_write", .glo "_law_uses"]
def fas2 : List He.Fa := [.glo "_law_has_twice", .glo "_law_reached", .glo "_law_lives", .glo "law", .glo "Program", .cls "Program", .mkr "Program", .keep "Program", .glo "Thrifty", .cls "Thrifty", .mkr "Thrifty", .keep "Thrifty", .glo "Twice", .cls "Twice", .mkr "Twice", .keep "Twice", .noat "Program" "letters", .noat "Program" "states", .noat "Program" "registers", .noat "Program" "firsts", .noat "Program" "steps", .noat "Program" "ends", .noat "Thrifty" "lives", .noat "Twice" "text", .noat "Twice" "rest", .noat "Twice" "name", .meth "Program" "__init__", .meth "Program" "check", .meth "Program" "after", .meth "Program" "reached", .meth "Thrifty" "__init__", .meth "Thrifty" "__eq__", .meth "Thrifty" "__bool__", .meth "Thrifty" "shows", .meth "Twice" "__init__", .meth "Twice" "__eq__", .meth "Twice" "__bool__", .meth "Twice" "shows", .int "MOST_LETTERS" 4, .int "MOST_STATES" 300, .int "MOST_REGISTERS" 60, .int "MOST_LIVES" 4000, .str "SMALL" "abcdefghijklmnopqrstuvwxyz", .str "SIGNS" "abcdefghijklmnopqrstuvwxyz0123456789"]
def fns : List He.DefD := fns1 ++ fns2
def fas : List He.Fa := fas1 ++ fas2
def lo1 : List Str := ["__name__", "PassError", "BadProgram", "BadWord", "TooLarge", "SMALL", "SIGNS", "MOST_LETTERS", "MOST_STATES", "MOST_REGISTERS", "is_whole", "is_word", "is_signs", "are_letters", "is_row", "joined", "registers_in", "text_of", "is_step", "whole_rows", "Program", "check_program", "MOST_LIVES", "has_twice"]
def lo2 : List Str := ["is_plain", "backwards", "uses_of", "Thrifty", "is_listed", "Twice", "count_of", "first_text", "judge_thrifty", "first_twice", "_law_cell_at", "_law_draw", "_law_number", "_law_next", "_law_pick", "_law_rows", "_law_end", "_law_program", "_law_write", "_law_uses", "_law_has_twice", "_law_reached", "_law_lives"]
def loose : List Str := lo1 ++ lo2
abbrev R : PySem.W.OpenRow := PySem.W.OpenLaw.row PySem.Challenge.rw_passtexts_k02_whole_thrifty
abbrev hk : PySem.W.Hook := He.hookD 4 fas fns
def ob (s : PySem.W.SharedT) : He.AlD := He.obsDG 4 fas fns (HandSHeadRun.getT s)
theorem ob_eq (s : PySem.W.SharedT) : ob s = hk.obs s.abs := He.obsDG_eq (HandSHeadRun.getT_eq s)
end K02
set_option Elab.async false
set_option linter.all false
set_option maxRecDepth 100000
set_option maxHeartbeats 4000000
/-! What a value is, told by predicates that the growth of the heap keeps (Ty); what an expression comes to (Ev): in two heaps, one of the data that stand (D), one as it is (H). -/
namespace K02
open PySem PySem.Spec PyProof.Rows L2
abbrev Sl := L2.St

/-! ### growth -/
def Fixd : HO → Prop
  | .tup _ => True
  | .lst _ => True
  | .ins _ _ _ => True
  | .own _ => True
  | _ => False
def Soft : HO → Prop
  | .dK _ => True
  | .dT _ => True
  | .ext _ => True
  | _ => False
/-- what may be changed where it stands (or is locked) -/
def Mu : HO → Prop
  | .lst _ => True
  | .ins _ _ _ => True
  | .dK _ => True
  | .dT _ => True
  | .ext _ => True
  | .frz _ _ => True
  | _ => False
def NoFz (u : HO) : Prop := ∀ x y, u ≠ .frz x y
/-- fixed things stand; dicts may be locked, unlocked -/
structure Kq (H H' : Hp) : Prop where
  fx : ∀ {a u}, Fixd u → H a = some u → H' a = some u
  sf : ∀ {a u}, Soft u → Rd H a u → Rd H' a u
/-- .. the locked ones are the same, nothing is lost -/
structure Kp (H H' : Hp) : Prop where
  q : Kq H H'
  nl : ∀ {a o u}, H a = some (.frz o u) ↔ H' a = some (.frz o u)
  dom : ∀ {a}, H' a = none → H a = none
  tp : ∀ {a vs}, H' a = some (.tup vs) → H a = none ∨ H a = some (.tup vs)

theorem Kq.refl (H : Hp) : Kq H H := ⟨fun _ h => h, fun _ h => h⟩
theorem Kq.trans {A B C : Hp} (x : Kq A B) (y : Kq B C) : Kq A C := ⟨fun f h => y.fx f (x.fx f h), fun f h => y.sf f (x.sf f h)⟩
theorem Kp.refl (H : Hp) : Kp H H := ⟨Kq.refl H, Iff.rfl, fun h => h, .inr⟩
theorem Kp.trans {A B C : Hp} (x : Kp A B) (y : Kp B C) : Kp A C := ⟨x.q.trans y.q, x.nl.trans y.nl, fun h => x.dom (y.dom h), fun h => by
  rcases y.tp h with z | z
  · exact .inl (x.dom z)
  · exact x.tp z⟩
theorem nofz_of {u : HO} (h : Fixd u ∨ Soft u) : NoFz u := fun x y e => by
  subst e
  rcases h with h | h <;> exact h
/-- what is new, or was not in the first heap, may be anything (but locked) -/
theorem Kp.put {H H' : Hp} {p : Addr} {o : HO} (k : Kp H H') (n : H p = none) (f : NoFz o) : Kp H (upd H' p o) := by
  have ne : ∀ {a : Addr} {u : HO}, H a = some u → a ≠ p := fun e => ne_of_none e n
  refine ⟨⟨fun fx e => ?_, fun sf r => ?_⟩, fun {a x u} => ⟨fun e => ?_, fun e => ?_⟩, fun {a} e => ?_, fun {a vs} e => ?_⟩
  · rw [upd_ne (ne e)]
    exact k.q.fx fx e
  · rename_i a u
    have na : a ≠ p := by
      rcases r with r | ⟨x, r⟩
      · exact ne r
      · exact ne r
    rcases k.q.sf sf r with r | ⟨x, r⟩
    · exact .inl (by rw [upd_ne na]; exact r)
    · exact .inr ⟨x, by rw [upd_ne na]; exact r⟩
  · rw [upd_ne (ne e)]
    exact k.nl.mp e
  · by_cases ea : a = p
    · subst ea
      rw [upd_same] at e
      exact absurd (Option.some.inj e) (f x u)
    · rw [upd_ne ea] at e
      exact k.nl.mpr e
  · by_cases ea : a = p
    · subst ea
      exact n
    · rw [upd_ne ea] at e
      exact k.dom e
  · by_cases ea : a = p
    · subst ea
      exact .inl n
    · rw [upd_ne ea] at e
      exact k.tp e
theorem Kp.new {H : Hp} {p : Addr} {o : HO} (n : H p = none) (f : NoFz o) : Kp H (upd H p o) := (Kp.refl H).put n f
/-- both heaps get it -/
theorem Kp.both {H H' : Hp} {p : Addr} {o : HO} (k : Kp H H') : Kp (upd H p o) (upd H' p o) := by
  refine ⟨⟨fun {a u} fx e => ?_, fun {a u} sf r => ?_⟩, fun {a x u} => ?_, fun {a} e => ?_, fun {a vs} e => ?_⟩
  · by_cases ea : a = p
    · subst ea
      rw [upd_same] at e ⊢
      exact e
    · rw [upd_ne ea] at e ⊢
      exact k.q.fx fx e
  · by_cases ea : a = p
    · subst ea
      unfold Rd at r ⊢
      rw [upd_same] at r ⊢
      exact r
    · unfold Rd at r ⊢
      rw [upd_ne ea] at r ⊢
      exact k.q.sf sf r
  · by_cases ea : a = p
    · subst ea
      rw [upd_same, upd_same]
    · rw [upd_ne ea, upd_ne ea]
      exact k.nl
  · by_cases ea : a = p
    · subst ea
      rw [upd_same] at e
      cases e
    · rw [upd_ne ea] at e ⊢
      exact k.dom e
  · by_cases ea : a = p
    · subst ea
      rw [upd_same] at e ⊢
      exact .inr e
    · rw [upd_ne ea] at e ⊢
      exact k.tp e

/-! ### semantic types -/
structure Ty where
  p : V → Hp → Prop
  up : ∀ {v : V} {H H' : Hp}, Kq H H' → p v H → p v H'
def tyV (x : V) : Ty := ⟨fun v _ => v = x, fun _ h => h⟩
abbrev tyI (i : Int) : Ty := tyV (.int i)
abbrev tyS (s : Str) : Ty := tyV (.str s)
abbrev tyB (b : Bool) : Ty := tyV (.bl b)
abbrev TysAt (ts : List Ty) (vs : List V) (H : Hp) : Prop := Paired (fun v (t : Ty) => t.p v H) vs ts
theorem TysAt.up {ts : List Ty} {vs : List V} {H H' : Hp} (k : Kq H H') (h : TysAt ts vs H) : TysAt ts vs H' := Paired.mapP h fun _ t z => t.up k z
theorem pr_len {α β : Type} {F : α → β → Prop} {xs : List α} {ys : List β} (h : Paired F xs ys) : xs.length = ys.length := Paired.length h
theorem pr_get {α β : Type} {F : α → β → Prop} : ∀ {xs : List α} {ys : List β} {i : Nat} {y : β}, Paired F xs ys → ys[i]? = some y → ∃ x, xs[i]? = some x ∧ F x y
  | _, _, _, _, .nil, e => by simp at e
  | _, _, 0, _, .cons r _, e => by simp at e; subst e; exact ⟨_, rfl, r⟩
  | _, _, i + 1, y, .cons _ t, e => by
    obtain ⟨x, h1, h2⟩ := pr_get (i := i) (y := y) t (by simpa using e)
    exact ⟨x, by simpa using h1, h2⟩
theorem pr_app {α β : Type} {F : α → β → Prop} : ∀ {xs us : List α} {ys ws : List β}, Paired F xs ys → Paired F us ws → Paired F (xs ++ us) (ys ++ ws)
  | _, _, _, _, .nil, s => s
  | _, _, _, _, .cons r t, s => .cons r (pr_app t s)
theorem pr_map {α β γ : Type} {F : α → γ → Prop} (f : β → γ) (g : β → α) (h : ∀ b, F (g b) (f b)) : ∀ l : List β, Paired F (l.map g) (l.map f)
  | [] => .nil
  | b :: r => .cons (h b) (pr_map f g h r)
def tyT (ts : List Ty) : Ty := ⟨fun v H => ∃ a vs, v = .ref a ∧ H a = some (.tup vs) ∧ TysAt ts vs H, fun k ⟨a, vs, e, h, r⟩ => ⟨a, vs, e, k.fx (u := .tup vs) True.intro h, TysAt.up k r⟩⟩
def tyL (ts : List Ty) : Ty := ⟨fun v H => ∃ a vs, v = .ref a ∧ H a = some (.lst vs) ∧ TysAt ts vs H, fun k ⟨a, vs, e, h, r⟩ => ⟨a, vs, e, k.fx (u := .lst vs) True.intro h, TysAt.up k r⟩⟩
abbrev KvsAt {κ : Type} (kts : List (κ × Ty)) (kvs : List (κ × V)) (H : Hp) : Prop := Paired (fun (x : κ × V) (y : κ × Ty) => x.1 = y.1 ∧ y.2.p x.2 H) kvs kts
theorem KvsAt.up {κ : Type} {kts : List (κ × Ty)} {kvs : List (κ × V)} {H H' : Hp} (k : Kq H H') (h : KvsAt kts kvs H) : KvsAt kts kvs H' := Paired.mapP h fun _ t z => ⟨z.1, t.2.up k z.2⟩
def tyD (kts : List (Key × Ty)) : Ty := ⟨fun v H => ∃ a kvs, v = .ref a ∧ Rd H a (.dK kvs) ∧ KvsAt kts kvs H, fun k ⟨a, kvs, e, h, r⟩ => ⟨a, kvs, e, k.sf (u := .dK kvs) True.intro h, KvsAt.up k r⟩⟩
def tyE (kts : List (List Key × Ty)) : Ty := ⟨fun v H => ∃ a kvs, v = .ref a ∧ Rd H a (.dT kvs) ∧ KvsAt kts kvs H, fun k ⟨a, kvs, e, h, r⟩ => ⟨a, kvs, e, k.sf (u := .dT kvs) True.intro h, KvsAt.up k r⟩⟩
/-- an instance of the class at C with these fields -/
def tyO (C : Addr) (fts : List (Str × Ty)) : Ty := ⟨fun v H => ∃ a dx fs, v = .ref a ∧ H a = some (.ins C dx fs) ∧ KvsAt fts fs H, fun k ⟨a, dx, fs, e, h, r⟩ => ⟨a, dx, fs, e, k.fx (u := .ins C dx fs) True.intro h, KvsAt.up k r⟩⟩
/-- a type that is another, where it stands -/
def Ty.Sub (t u : Ty) : Prop := ∀ v H, t.p v H → u.p v H

theorem lookup_at {κ : Type} [DecidableEq κ] {kts : List (κ × Ty)} {kvs : List (κ × V)} {H : Hp} (h : KvsAt kts kvs H) (k : κ) :
    (∀ t, (kts.find? fun x => decide (x.1 = k)) = some (k, t) → ∃ v, valV kvs k = some v ∧ t.p v H) ∧ ((∀ x ∈ kts, x.1 ≠ k) → valV kvs k = none) := by
  induction h with
  | nil => exact ⟨fun t e => by simp at e, fun _ => rfl⟩
  | @cons p q ps qs r _ ih =>
    obtain ⟨r1, r2⟩ := r
    refine ⟨fun t e => ?_, fun n => ?_⟩
    · by_cases c : q.1 = k
      · rw [List.find?_cons, decide_eq_true c] at e
        cases e
        exact ⟨p.2, valV_pos (r1.trans c), r2⟩
      · rw [List.find?_cons, decide_eq_false c] at e
        obtain ⟨v, h1, h2⟩ := ih.1 t e
        exact ⟨v, (valV_neg (fun z => c (r1.symm.trans z))).trans h1, h2⟩
    · have c := n q List.mem_cons_self
      exact (valV_neg (fun z => c (r1.symm.trans z))).trans (ih.2 fun x hx => n x (List.mem_cons_of_mem _ hx))
/-- what a dict holds at a key -/
def Has {κ : Type} [DecidableEq κ] (kts : List (κ × Ty)) (k : κ) (t : Ty) : Prop := (kts.find? fun x => decide (x.1 = k)) = some (k, t)
def HasNo {κ : Type} (kts : List (κ × Ty)) (k : κ) : Prop := ∀ x ∈ kts, x.1 ≠ k
theorem has_map {κ α : Type} [DecidableEq κ] (key : α → κ) (f : α → Ty) (inj : ∀ x y, key x = key y → x = y) : ∀ {l : List α} {x : α}, x ∈ l → Has (l.map fun z => (key z, f z)) (key x) (f x)
  | [], _, h => by cases h
  | a :: r, x, h => by
    unfold Has
    rw [List.map_cons, List.find?_cons]
    by_cases e : key a = key x
    · rw [decide_eq_true e]
      have := inj _ _ e
      subst this
      rfl
    · rw [decide_eq_false e]
      rcases List.mem_cons.mp h with z | z
      · exact absurd (by rw [z]) e
      · exact has_map key f inj z
theorem hasNo_map {κ α : Type} (key : α → κ) (f : α → Ty) {l : List α} {k : κ} (h : ∀ x ∈ l, key x ≠ k) : HasNo (l.map fun z => (key z, f z)) k := fun y hy => by
  obtain ⟨x, hx, rfl⟩ := List.mem_map.mp hy
  exact h x hx

/-! ### what expressions come to: D holds the data, H is the heap as it is -/
structure Grow (D H D' H' : Hp) : Prop where
  d : Kp D D'
  dh : Kp D' H'
  h : Kp H H'
  new : ∀ {a u}, D a = none → H a = some u → Mu u → D' a = none
/-- what may be changed is such after growth -/
theorem Kp.mu {H H' : Hp} {a : Addr} {u : HO} (k : Kp H H') (h : H a = some u) (m : Mu u) : ∃ u', H' a = some u' ∧ Mu u' := by
  have soft : Soft u → ∃ u', H' a = some u' ∧ Mu u' := fun s => by
    rcases k.q.sf s (.inl h) with r | ⟨o, r⟩
    · exact ⟨_, r, m⟩
    · exact ⟨_, r, True.intro⟩
  cases u with
  | lst l => exact ⟨_, k.q.fx (u := .lst l) True.intro h, m⟩
  | ins C dx fs => exact ⟨_, k.q.fx (u := .ins C dx fs) True.intro h, m⟩
  | dK l => exact soft True.intro
  | dT l => exact soft True.intro
  | ext f => exact soft True.intro
  | frz o x => exact ⟨_, k.nl.mp h, m⟩
  | _ => exact m.elim
theorem Grow.refl {D H : Hp} (k : Kp D H) : Grow D H D H := ⟨Kp.refl D, k, Kp.refl H, fun h _ _ => h⟩
theorem Grow.trans {D H D1 H1 D2 H2 : Hp} (x : Grow D H D1 H1) (y : Grow D1 H1 D2 H2) : Grow D H D2 H2 := ⟨x.d.trans y.d, y.dh, x.h.trans y.h, fun h e m => by
  obtain ⟨u', e', m'⟩ := x.h.mu e m
  exact y.new (x.new h e m) e' m'⟩
/-- a new thing that stands, seen as data at once -/
theorem Grow.add {D H D' H' : Hp} {p : Addr} {u : HO} (x : Grow D H D' H') (n : H' p = none) (f : Fixd u ∨ Soft u) : Grow D H (upd D' p u) (upd H' p u) :=
  ⟨x.d.put ((x.d.trans x.dh).dom n) (nofz_of f), x.dh.both, x.h.put (x.h.dom n) (nofz_of f), fun {a w} h e m => by
    have ne : a ≠ p := ne_of_none e (x.h.dom n)
    rw [upd_ne ne]
    exact x.new h e m⟩
/-- .. not seen as data -/
theorem Grow.mut {D H D' H' : Hp} {p : Addr} {u : HO} (x : Grow D H D' H') (n : H p = none) (m : D' p = none) (f : NoFz u) : Grow D H D' (upd H' p u) :=
  ⟨x.d, x.dh.put m f, x.h.put n f, x.new⟩
/-- what was made and changed is data from now on -/
theorem Grow.own {D H D' H' : Hp} {p : Addr} {u : HO} (x : Grow D H D' H') (n : H p = none) (m : D' p = none) (e : H' p = some u) (f : Fixd u ∨ Soft u) : Grow D H (upd D' p u) H' := by
  have eh : upd H' p u = H' := by
    funext a
    by_cases ea : a = p
    · rw [ea, upd_same, e]
    · rw [upd_ne ea]
  refine ⟨x.d.put (x.d.dom m) (nofz_of f), ?_, x.h, fun {a w} h k m2 => ?_⟩
  · have := x.dh.both (p := p) (o := u)
    rw [eh] at this
    exact this
  · have ne : a ≠ p := ne_of_none k n
    rw [upd_ne ne]
    exact x.new h k m2
/-- a tuple that stands is data -/
theorem Grow.seen {D H D' H' : Hp} {p : Addr} {vs : List V} (x : Grow D H D' H') (e : H' p = some (.tup vs)) : ∃ D2, Grow D H D2 H' ∧ Kp D' D2 ∧ D2 p = some (.tup vs) := by
  by_cases c : D' p = none
  · have eh : upd H' p (.tup vs) = H' := by
      funext a
      by_cases ea : a = p
      · rw [ea, upd_same, e]
      · rw [upd_ne ea]
    have f : NoFz (.tup vs) := fun x y z => by cases z
    refine ⟨upd D' p (.tup vs), ⟨x.d.put (x.d.dom c) f, ?_, x.h, fun {a w} h k m => ?_⟩, Kp.new c f, upd_same⟩
    · have := x.dh.both (p := p) (o := .tup vs)
      rw [eh] at this
      exact this
    · by_cases ea : a = p
      · subst ea
        obtain ⟨w', e', m'⟩ := x.h.mu k m
        rw [e] at e'
        cases e'
        exact m'.elim
      · rw [upd_ne ea]
        exact x.new h k m
  · cases q : D' p with
    | none => exact absurd q c
    | some u =>
      refine ⟨D', x, Kp.refl _, ?_⟩
      rcases x.dh.tp e with z | z
      · rw [z] at q
        cases q
      · rw [q] at z
        rw [q, z]

def Ev (te : TE) (σ : Sl) (D0 : Hp) (t : Ty) : Prop := ∀ D H, Kp D0 D → Kp D H → ∀ Q : VK, (∀ v D' H', Grow D H D' H' → t.p v D' → Q v H') → te σ H Q
def EvB (tt : TT) (σ : Sl) (D0 : Hp) (b : Bool) : Prop := ∀ D H, Kp D0 D → Kp D H → ∀ Q : Bool → Hp → Prop, (∀ D' H', Grow D H D' H' → Q b H') → tt σ H Q
def EvA (ta : TA) (σ : Sl) (D0 : Hp) (ts : List Ty) : Prop := ∀ D H, Kp D0 D → Kp D H → ∀ Q : List V → Hp → Prop, (∀ vs D' H', Grow D H D' H' → TysAt ts vs D' → Q vs H') → ta σ H Q
/-- a two-place operation on values -/
def RV (r : R2) (t u z : Ty) : Prop := ∀ x y D H, Kp D H → t.p x D → u.p y D → ∀ Q : VK, (∀ v D' H', Grow D H D' H' → z.p v D' → Q v H') → r x y H Q
/-- a call on values -/
def RC (r : List V → Hp → VK → Prop) (ts : List Ty) (z : Ty) : Prop := ∀ xs D H, Kp D H → TysAt ts xs D → ∀ Q : VK, (∀ v D' H', Grow D H D' H' → z.p v D' → Q v H') → r xs H Q

section
variable {K : PySem.W.Frag} {σ : Sl} {D D' H : Hp} {te ta tb tc : TE} {tt tu : TT} {t u z : Ty} {ts : List Ty} {r r' : R2}
theorem Ev.up (k : Kp D D') (e : Ev te σ D t) : Ev te σ D' t := fun D1 H k1 h Q q => e D1 H (k.trans k1) h Q q
theorem EvB.up {b : Bool} (k : Kp D D') (e : EvB tt σ D b) : EvB tt σ D' b := fun D1 H k1 h Q q => e D1 H (k.trans k1) h Q q
theorem EvA.up {ta : TA} (k : Kp D D') (e : EvA ta σ D ts) : EvA ta σ D' ts := fun D1 H k1 h Q q => e D1 H (k.trans k1) h Q q
theorem Ev.sub (s : Ty.Sub t u) (e : Ev te σ D t) : Ev te σ D u := fun D1 H k1 h Q q => e D1 H k1 h Q fun v D2 H2 g tv => q v D2 H2 g (s v D2 tv)
/-- use at the heap as it is -/
theorem Ev.use {Q : VK} (e : Ev te σ D t) (k : Kp D H) (q : ∀ v D' H', Grow D H D' H' → t.p v D' → Q v H') : te σ H Q := e D H (Kp.refl D) k Q q
theorem EvB.use {b : Bool} {Q : Bool → Hp → Prop} (e : EvB tt σ D b) (k : Kp D H) (q : ∀ D' H', Grow D H D' H' → Q b H') : tt σ H Q := e D H (Kp.refl D) k Q q

theorem ev_var {i : Nat} {v : V} (h : σ[i]? = some (some v)) (tv : t.p v D) : Ev (tVar i) σ D t := fun D1 H k h1 Q q => ⟨v, h, q v D1 H (Grow.refl h1) (t.up k.q tv)⟩
theorem ev_c {v : V} : Ev (tC v) σ D (tyV v) := fun D1 H k h Q q => q v D1 H (Grow.refl h) rfl
theorem ev_op (ea : Ev ta σ D t) (eb : Ev tb σ D u) (hr : RV r t u z) : Ev (tOp r ta tb) σ D z := fun D1 H k h Q q =>
  ea D1 H k h _ fun x D2 H2 g2 tx => eb D2 H2 (k.trans g2.d) g2.dh _ fun y D3 H3 g3 ty => hr x y D3 H3 g3.dh (t.up g3.d.q tx) ty Q fun v D4 H4 g4 tz => q v D4 H4 ((g2.trans g3).trans g4) tz
theorem ea_nil : EvA tNil σ D [] := fun D1 H k h Q q => q [] D1 H (Grow.refl h) .nil
theorem ea_cons {tr : TA} (e : Ev te σ D t) (er : EvA tr σ D ts) : EvA (tCons te tr) σ D (t :: ts) := fun D1 H k h Q q =>
  e D1 H k h _ fun x D2 H2 g2 tx => er D2 H2 (k.trans g2.d) g2.dh _ fun xs D3 H3 g3 txs => q (x :: xs) D3 H3 (g2.trans g3) (.cons (t.up g3.d.q tx) txs)
theorem ev_tup {ta : TA} (e : EvA ta σ D ts) (hl : ts.length ≤ 100000 := by simp) : Ev (tTup ta) σ D (tyT ts) := fun D1 H k h Q q =>
  e D1 H k h _ fun vs D2 H2 g2 tv => ⟨by rw [pr_len tv]; exact Nat.le_trans hl (by decide), fun p hp => q (.ref p) _ _ (g2.add hp (.inl True.intro)) ⟨p, vs, rfl, upd_same, TysAt.up (Kp.new ((g2.dh).dom hp) (nofz_of (.inl (show Fixd (.tup vs) from True.intro)))).q tv⟩⟩
theorem ev_lst {ta : TA} (e : EvA ta σ D ts) (hl : ts.length ≤ 100000 := by simp) : Ev (tLst ta) σ D (tyL ts) := fun D1 H k h Q q =>
  e D1 H k h _ fun vs D2 H2 g2 tv => ⟨by rw [pr_len tv]; exact Nat.le_trans hl (by decide), fun p hp => q (.ref p) _ _ (g2.add hp (.inl True.intro)) ⟨p, vs, rfl, upd_same, TysAt.up (Kp.new ((g2.dh).dom hp) (nofz_of (.inl (show Fixd (.lst vs) from True.intro)))).q tv⟩⟩
theorem ev_cb {ta : TA} {rc : List V → Hp → VK → Prop} (e : EvA ta σ D ts) (hr : RC rc ts z) : Ev (tCB rc ta) σ D z := fun D1 H k h Q q =>
  e D1 H k h _ fun xs D2 H2 g2 tx => hr xs D2 H2 g2.dh tx Q fun v D3 H3 g3 tz => q v D3 H3 (g2.trans g3) tz
theorem ev_if {b : Bool} (eb : EvB tt σ D b) (e1 : b = true → Ev ta σ D t) (e2 : b = false → Ev tb σ D t) : Ev (tIf tt ta tb) σ D t := fun D1 H k h Q q =>
  eb D1 H k h _ fun D2 H2 g2 => by
    cases b with
    | true => exact e1 rfl D2 H2 (k.trans g2.d) g2.dh Q fun v D3 H3 g3 tv => q v D3 H3 (g2.trans g3) tv
    | false => exact e2 rfl D2 H2 (k.trans g2.d) g2.dh Q fun v D3 H3 g3 tv => q v D3 H3 (g2.trans g3) tv
theorem eb_test {b : Bool} (e : Ev te σ D (tyB b)) : EvB (tTest te) σ D b := fun D1 H k h Q q => e D1 H k h _ fun v D2 H2 g2 tv => ⟨b, tv, q D2 H2 g2⟩
theorem eb_B {b : Bool} (e : Ev te σ D (tyB b)) : EvB (tB te) σ D b := fun D1 H k h Q q => e D1 H k h _ fun v D2 H2 g2 tv => ⟨b, tv, q D2 H2 g2⟩
theorem eb_not {b : Bool} (e : EvB tt σ D b) : EvB (tNot tt) σ D (!b) := fun D1 H k h Q q => e D1 H k h _ fun D2 H2 g2 => q D2 H2 g2
theorem eb_and {a b : Bool} (e1 : EvB tt σ D a) (e2 : a = true → EvB tu σ D b) : EvB (tAnd tt tu) σ D (a && b) := fun D1 H k h Q q =>
  e1 D1 H k h _ fun D2 H2 g2 => by
    cases a with
    | true => exact e2 rfl D2 H2 (k.trans g2.d) g2.dh Q fun D3 H3 g3 => q D3 H3 (g2.trans g3)
    | false => exact q D2 H2 g2
theorem eb_or {a b : Bool} (e1 : EvB tt σ D a) (e2 : a = false → EvB tu σ D b) : EvB (tOr tt tu) σ D (a || b) := fun D1 H k h Q q =>
  e1 D1 H k h _ fun D2 H2 g2 => by
    cases a with
    | false => exact e2 rfl D2 H2 (k.trans g2.d) g2.dh Q fun D3 H3 g3 => q D3 H3 (g2.trans g3)
    | true => exact q D2 H2 g2
theorem eb_is {a b : Bool} (h : a = b) (e : EvB tt σ D a) : EvB tt σ D b := h ▸ e
theorem ev_is {t u : Ty} (h : t = u) (e : Ev te σ D t) : Ev te σ D u := h ▸ e
theorem ev_andV {a b : Bool} (e1 : Ev ta σ D (tyB a)) (e2 : a = true → Ev tb σ D (tyB b)) : Ev (tAndV ta tb) σ D (tyB (a && b)) := fun D1 H k h Q q =>
  e1 D1 H k h _ fun v D2 H2 g2 tv => ⟨a, tv, by
    cases a with
    | true => exact e2 rfl D2 H2 (k.trans g2.d) g2.dh Q fun v D3 H3 g3 tw => q v D3 H3 (g2.trans g3) tw
    | false => exact q _ D2 H2 g2 rfl⟩
theorem ev_orV {a b : Bool} (e1 : Ev ta σ D (tyB a)) (e2 : a = false → Ev tb σ D (tyB b)) : Ev (tOrV ta tb) σ D (tyB (a || b)) := fun D1 H k h Q q =>
  e1 D1 H k h _ fun v D2 H2 g2 tv => ⟨a, tv, by
    cases a with
    | false => exact e2 rfl D2 H2 (k.trans g2.d) g2.dh Q fun v D3 H3 g3 tw => q v D3 H3 (g2.trans g3) tw
    | true => exact q _ D2 H2 g2 rfl⟩
theorem ev_notV {a : Bool} (e1 : Ev ta σ D (tyB a)) : Ev (tNotV ta) σ D (tyB (!a)) := fun D1 H k h Q q => e1 D1 H k h _ fun v D2 H2 g2 tv => ⟨a, tv, q _ D2 H2 g2 rfl⟩
theorem ev_chain {a b : Bool} (ea : Ev ta σ D t) (eb : Ev tb σ D u) (ec : a = true → Ev tc σ D z) (h1 : RV r t u (tyB a)) (h2 : a = true → RV r' u z (tyB b)) : Ev (tChain r r' ta tb tc) σ D (tyB (a && b)) := fun D1 H k h Q q =>
  ea D1 H k h _ fun x D2 H2 g2 tx => eb D2 H2 (k.trans g2.d) g2.dh _ fun y D3 H3 g3 ty => h1 x y D3 H3 g3.dh (t.up g3.d.q tx) ty _ fun v D4 H4 g4 tv => ⟨a, tv, by
    cases a with
    | true => exact ec rfl D4 H4 ((k.trans g2.d).trans (g3.d.trans g4.d)) g4.dh _ fun w D5 H5 g5 tw => h2 rfl y w D5 H5 g5.dh (u.up (g4.d.trans g5.d).q ty) tw Q fun v D6 H6 g6 tv => q v D6 H6 ((((g2.trans g3).trans g4).trans g5).trans g6) tv
    | false => exact q _ D4 H4 ((g2.trans g3).trans g4) rfl⟩

/-! ### operations -/
theorem RV.plain {x y w : V} (h : ∀ H (Q : VK), Q w H → r x y H Q) : RV r (tyV x) (tyV y) (tyV w) := fun a b D H k ha hb Q q => by
  have ea : a = x := ha
  have eb : b = y := hb
  subst ea eb
  exact h H Q (q _ D H (Grow.refl k) rfl)
theorem rv_I0 {g : Int → Int → V} {i j : Int} : RV (rI0 g) (tyI i) (tyI j) (tyV (g i j)) := RV.plain fun H Q q => ⟨i, j, rfl, rfl, q⟩
theorem rv_I {C : Int → Int → Prop} {g : Int → Int → V} {i j : Int} (c : C i j) : RV (rI C g) (tyI i) (tyI j) (tyV (g i j)) := RV.plain fun H Q q => ⟨i, j, rfl, rfl, c, q⟩
theorem rv_eq {x y : V} (h : scal x y = true) : RV rEq (tyV x) (tyV y) (tyB (decide (x = y))) := RV.plain fun H Q q => ⟨h, q⟩
theorem rv_ne {x y : V} (h : scal x y = true) : RV rNe (tyV x) (tyV y) (tyB (!decide (x = y))) := RV.plain fun H Q q => ⟨h, q⟩
theorem at_pr {ts : List Ty} {vs : List V} {i : Int} {H : Hp} (h : TysAt ts vs H) (e : atI ts i = some t) : ∃ v, atI vs i = some v ∧ t.p v H := by
  unfold atI at e ⊢
  rw [pr_len h]
  cases q : ixN ts.length i with
  | none => rw [q] at e; cases e
  | some j =>
    rw [q] at e
    exact pr_get (F := fun v (t : Ty) => t.p v H) h e
theorem rv_ixT {i : Int} (h : atI ts i = some t) : RV (rIxT K) (tyT ts) (tyI i) t := fun x y D H k hx hy Q q => by
  obtain ⟨a, vs, rfl, ha, hv⟩ := hx
  have hy : y = .int i := hy
  subst hy
  obtain ⟨v, hv1, hv2⟩ := at_pr hv h
  exact ⟨a, vs, i, v, rfl, rfl, SqT.of (k.q.fx (u := .tup vs) True.intro ha), hv1, q v D H (Grow.refl k) hv2⟩
theorem rv_ixL {i : Int} (h : atI ts i = some t) : RV (rIxL K) (tyL ts) (tyI i) t := fun x y D H k hx hy Q q => by
  obtain ⟨a, vs, rfl, ha, hv⟩ := hx
  have hy : y = .int i := hy
  subst hy
  obtain ⟨v, hv1, hv2⟩ := at_pr hv h
  exact ⟨a, vs, i, v, rfl, rfl, SqL.of (k.q.fx (u := .lst vs) True.intro ha), hv1, q v D H (Grow.refl k) hv2⟩
theorem rv_catS {s t : Str} (h : s.length + t.length ≤ 100000) : RV (fun x y H Q => ∃ i j, x = .str i ∧ y = .str j ∧ i.length + j.length ≤ sizeLine ∧ Q (.str (i ++ j)) H) (tyS s) (tyS t) (tyS (s ++ t)) :=
  RV.plain fun H Q q => ⟨s, t, rfl, rfl, Nat.le_trans h (by decide), q⟩
theorem rv_cat {us : List Ty} (h : ts.length + us.length ≤ 100000) : RV rCat (tyL ts) (tyL us) (tyL (ts ++ us)) := fun x y D H k hx hy Q q => by
  obtain ⟨a, vs, rfl, ha, hv⟩ := hx
  obtain ⟨b, ws, rfl, hb, hw⟩ := hy
  refine ⟨a, b, vs, ws, rfl, rfl, k.q.fx (u := .lst vs) True.intro ha, k.q.fx (u := .lst ws) True.intro hb, by rw [pr_len hv, pr_len hw]; exact Nat.le_trans h (by decide), fun p hp => ?_⟩
  exact q (.ref p) _ _ ((Grow.refl k).add hp (.inl True.intro)) ⟨p, vs ++ ws, rfl, upd_same, TysAt.up (Kp.new (k.dom hp) (nofz_of (.inl (show Fixd (.lst (vs ++ ws)) from True.intro)))).q (pr_app hv hw)⟩
theorem all_flat {xs : List V} : ∀ {vs : List V} {H : Hp}, TysAt (xs.map tyV) vs H → vs = xs := by
  induction xs with
  | nil => intro vs H h; cases h; rfl
  | cons x r ih =>
    intro vs H h
    rw [List.map_cons] at h
    cases h with
    | cons h1 h2 =>
      rw [ih h2]
      exact congrArg (· :: r) h1
theorem tysAt_of {xs : List V} {H : Hp} : TysAt (xs.map tyV) xs H := by
  induction xs with
  | nil => exact .nil
  | cons x r ih => exact .cons rfl ih
/-- x in a list of flat things -/
theorem rv_inL {neg : Bool} {x : V} {xs : List V} (hx : flatV x = true) (hs : xs.all flatV = true) : RV (rIn K neg) (tyV x) (tyL (xs.map tyV)) (tyB (if neg then !inV x xs else inV x xs)) := fun a y D H k ha hy Q q => by
  have ea : a = x := ha
  subst ea
  obtain ⟨b, vs, rfl, hb, hv⟩ := hy
  rw [all_flat hv] at hb
  exact ⟨b, xs, rfl, .inl (SqL.of (k.q.fx (u := .lst xs) True.intro hb)), hx, hs, q _ D H (Grow.refl k) rfl⟩
theorem rc_lenL : RC (fun xs H Q => ∃ p ys, xs = [.ref p] ∧ (SqL K H p ys ∨ SqT K H p ys) ∧ Q (.int ys.length) H) [tyL ts] (tyI ts.length) := fun xs D H k h Q q => by
  cases h with
  | cons h1 h2 =>
    cases h2
    obtain ⟨a, vs, rfl, ha, hv⟩ := h1
    exact ⟨a, vs, rfl, .inl (SqL.of (k.q.fx (u := .lst vs) True.intro ha)), q _ D H (Grow.refl k) (by rw [pr_len hv]; rfl)⟩
theorem rc_lenT : RC (fun xs H Q => ∃ p ys, xs = [.ref p] ∧ (SqL K H p ys ∨ SqT K H p ys) ∧ Q (.int ys.length) H) [tyT ts] (tyI ts.length) := fun xs D H k h Q q => by
  cases h with
  | cons h1 h2 =>
    cases h2
    obtain ⟨a, vs, rfl, ha, hv⟩ := h1
    exact ⟨a, vs, rfl, .inr (SqT.of (k.q.fx (u := .tup vs) True.intro ha)), q _ D H (Grow.refl k) (by rw [pr_len hv]; rfl)⟩
theorem RC.one {x w : V} {rc : List V → Hp → VK → Prop} (h : ∀ H (Q : VK), Q w H → rc [x] H Q) : RC rc [tyV x] (tyV w) := fun xs D H k hx Q q => by
  cases hx with
  | cons h1 h2 =>
    cases h2
    have e : _ = x := h1
    subst e
    exact h H Q (q _ D H (Grow.refl k) rfl)
theorem rc_lenS {s : Str} (h : s.length ≤ 100000) : RC (fun xs H Q => ∃ z, xs = [.str z] ∧ z.length ≤ sizeLine ∧ Q (.int z.length) H) [tyS s] (tyI s.length) := RC.one fun H Q q => ⟨s, rfl, Nat.le_trans h (by decide), q⟩
theorem rc_tupL {K : PySem.W.Frag} : RC (fun xs H Q => ∃ p ys, xs = [.ref p] ∧ ((SqL K H p ys ∧ ∀ l, H l = none → Q (.ref l) (upd H l (.tup ys))) ∨ (SqT K H p ys ∧ Q (.ref p) H))) [tyL ts] (tyT ts) := fun xs D H k h Q q => by
  cases h with
  | cons h1 h2 =>
    cases h2
    obtain ⟨a, vs, rfl, ha, hv⟩ := h1
    refine ⟨a, vs, rfl, .inl ⟨SqL.of (k.q.fx (u := .lst vs) True.intro ha), fun p hp => ?_⟩⟩
    exact q (.ref p) _ _ ((Grow.refl k).add hp (.inl True.intro)) ⟨p, vs, rfl, upd_same, TysAt.up (Kp.new (k.dom hp) (nofz_of (.inl (show Fixd (.tup vs) from True.intro)))).q hv⟩
theorem rc_tupT {K : PySem.W.Frag} : RC (fun xs H Q => ∃ p ys, xs = [.ref p] ∧ ((SqL K H p ys ∧ ∀ l, H l = none → Q (.ref l) (upd H l (.tup ys))) ∨ (SqT K H p ys ∧ Q (.ref p) H))) [tyT ts] (tyT ts) := fun xs D H k h Q q => by
  cases h with
  | cons h1 h2 =>
    cases h2
    obtain ⟨a, vs, rfl, ha, hv⟩ := h1
    exact ⟨a, vs, rfl, .inr ⟨SqT.of (k.q.fx (u := .tup vs) True.intro ha), q _ D H (Grow.refl k) ⟨a, vs, rfl, ha, hv⟩⟩⟩
/-- all, any of a list of truth values -/
theorem rc_all {bs : List Bool} : RC (rAll K) [tyL (bs.map fun b => tyV (.bl b))] (tyB (bs.all id)) := fun xs D H k h Q q => by
  cases h with
  | cons h1 h2 =>
    cases h2
    obtain ⟨a, vs, rfl, ha, hv⟩ := h1
    have e : vs = bs.map V.bl := all_flat (by rw [List.map_map]; exact hv)
    subst e
    exact ⟨a, bs, rfl, SqL.of (k.q.fx (u := .lst _) True.intro ha), q _ D H (Grow.refl k) rfl⟩
theorem rc_any {bs : List Bool} : RC (rAny K) [tyL (bs.map fun b => tyV (.bl b))] (tyB (bs.any id)) := fun xs D H k h Q q => by
  cases h with
  | cons h1 h2 =>
    cases h2
    obtain ⟨a, vs, rfl, ha, hv⟩ := h1
    have e : vs = bs.map V.bl := all_flat (by rw [List.map_map]; exact hv)
    subst e
    exact ⟨a, bs, rfl, SqL.of (k.q.fx (u := .lst _) True.intro ha), q _ D H (Grow.refl k) rfl⟩

/-! ### calls of pure defs -/
/-- a def that looks at its arguments alone and makes new things -/
def SpF {α : Type} (A : α → List Ty) (B : α → Ty) (C : α → Prop) : Sp := fun vs H Q _ => ∃ x D, C x ∧ Kp D H ∧ TysAt (A x) vs D ∧ ∀ v D' H', Grow D H D' H' → (B x).p v D' → Q v H'
theorem SpF.len {α : Type} {A : α → List Ty} {B : α → Ty} {C : α → Prop} {n : Nat} (hn : ∀ x, (A x).length = n) {vs : List V} {H : Hp} {Q : VK} {E : XK} (h : SpF A B C vs H Q E) : vs.length = n := by
  obtain ⟨x, D, _, _, h, _⟩ := h
  rw [pr_len h, hn]
theorem ev_call {α : Type} {A : α → List Ty} {B : α → Ty} {C : α → Prop} {E : XK} {ta : TA} (x : α) (c : C x) (e : EvA ta σ D (A x)) : Ev (tCall (SpF A B C) [] E ta) σ D (B x) := fun D1 H k h Q q =>
  e D1 H k h _ fun vs D2 H2 g2 tv => by
    rw [List.append_nil]
    exact ⟨x, D2, c, g2.dh, tv, fun v D3 H3 g3 tb => q v D3 H3 (g2.trans g3) tb⟩
end
end K02
set_option Elab.async false
set_option linter.all false
set_option maxRecDepth 100000
set_option maxHeartbeats 4000000
/-! Walks, comprehensions, locks over Ty and Ev. -/
namespace K02
open PySem PySem.Spec PyProof.Rows L2

/-- a walk that gives things of these types, one a turn -/
structure TW (J : It) (D : Hp) (ts : List Ty) : Prop where
  goes : ∀ i H, Kp D H → i < ts.length → J.go i H
  stops : ∀ H, Kp D H → J.stop ts.length H
  yld : ∀ i t D1 H x H', Kp D D1 → Kp D1 H → ts[i]? = some t → J.yld i H x H' → ∃ D2, Grow D1 H D2 H' ∧ t.p x D2
/-- .. and makes nothing -/
structure TW0 (J : It) (D : Hp) (ts : List Ty) : Prop where
  goes : ∀ i H, Kp D H → i < ts.length → J.go i H
  stops : ∀ H, Kp D H → J.stop ts.length H
  yld : ∀ i t D1 H x H', Kp D D1 → Kp D1 H → ts[i]? = some t → J.yld i H x H' → H' = H ∧ t.p x D1
theorem TW0.tw {J : It} {D : Hp} {ts : List Ty} (w : TW0 J D ts) : TW J D ts := ⟨w.goes, w.stops, fun i t D1 H x H' k h e y => by
  obtain ⟨rfl, tx⟩ := w.yld i t D1 H x H' k h e y
  exact ⟨D1, Grow.refl h, tx⟩⟩
def EvI (wi : TI) (σ : Sl) (D0 : Hp) (ts : List Ty) : Prop := ∀ D H, Kp D0 D → Kp D H → ∀ R : It → Hp → Prop, (∀ J D' H', Grow D H D' H' → TW J D' ts → R J H') → wi σ H R
def EvI0 (wi : TI) (σ : Sl) (D0 : Hp) (ts : List Ty) : Prop := ∀ D H, Kp D0 D → Kp D H → ∀ R : It → Hp → Prop, (∀ J D' H', Grow D H D' H' → TW0 J D' ts → R J H') → wi σ H R
theorem EvI0.i {wi : TI} {σ : Sl} {D : Hp} {ts : List Ty} (e : EvI0 wi σ D ts) : EvI wi σ D ts := fun D1 H k h R q => e D1 H k h R fun J D2 H2 g w => q J D2 H2 g w.tw
theorem EvI.up {wi : TI} {σ : Sl} {D D' : Hp} {ts : List Ty} (k : Kp D D') (e : EvI wi σ D ts) : EvI wi σ D' ts := fun D1 H k1 h R q => e D1 H (k.trans k1) h R q
theorem EvI0.up {wi : TI} {σ : Sl} {D D' : Hp} {ts : List Ty} (k : Kp D D') (e : EvI0 wi σ D ts) : EvI0 wi σ D' ts := fun D1 H k1 h R q => e D1 H (k.trans k1) h R q

section
variable {K : PySem.W.Frag} {σ : Sl} {D D' H : Hp} {te ta tk tv : TE} {tt : TT} {t : Ty} {ts : List Ty}
theorem evi_list (e : Ev te σ D (tyL ts)) : EvI0 (iList K te) σ D ts := fun D1 H k h R q => e D1 H k h _ fun x D2 H2 g2 tx => by
  obtain ⟨a, vs, rfl, ha, hv⟩ := tx
  have at' : ∀ {D3 H3 : Hp}, Kp D2 D3 → Kp D3 H3 → SqL K H3 a vs := fun k3 h3 => SqL.of (h3.q.fx (u := .lst vs) True.intro (k3.q.fx (u := .lst vs) True.intro ha))
  refine ⟨a, rfl, ⟨vs, at' (Kp.refl D2) g2.dh⟩, q _ D2 H2 g2 ⟨fun i H3 k3 hi => ?_, fun H3 k3 => ?_, fun i t D3 H3 y H4 k3 h3 e y4 => ?_⟩⟩
  · have hi : i < vs.length := by rw [pr_len hv]; exact hi
    exact ⟨vs, vs[i], at' (Kp.refl D2) k3, by simp [hi]⟩
  · exact ⟨vs, at' (Kp.refl D2) k3, by rw [pr_len hv]; exact Nat.le_refl _⟩
  · obtain ⟨e1, e2⟩ := y4
    obtain ⟨v, h1, h2⟩ := pr_get (F := fun v (t : Ty) => t.p v D2) hv e
    have e3 := e2 vs (at' k3 h3)
    rw [e3] at h1
    cases h1
    exact ⟨e1, t.up k3.q h2⟩
theorem evi_tup (e : Ev te σ D (tyT ts)) : EvI0 (iTup K te) σ D ts := fun D1 H k h R q => e D1 H k h _ fun x D2 H2 g2 tx => by
  obtain ⟨a, vs, rfl, ha, hv⟩ := tx
  have at' : ∀ {D3 H3 : Hp}, Kp D2 D3 → Kp D3 H3 → SqT K H3 a vs := fun k3 h3 => SqT.of (h3.q.fx (u := .tup vs) True.intro (k3.q.fx (u := .tup vs) True.intro ha))
  refine ⟨a, rfl, ⟨vs, at' (Kp.refl D2) g2.dh⟩, q _ D2 H2 g2 ⟨fun i H3 k3 hi => ?_, fun H3 k3 => ?_, fun i t D3 H3 y H4 k3 h3 e y4 => ?_⟩⟩
  · have hi : i < vs.length := by rw [pr_len hv]; exact hi
    exact ⟨vs, vs[i], at' (Kp.refl D2) k3, by simp [hi]⟩
  · exact ⟨vs, at' (Kp.refl D2) k3, by rw [pr_len hv]; exact Nat.le_refl _⟩
  · obtain ⟨e1, e2⟩ := y4
    obtain ⟨v, h1, h2⟩ := pr_get (F := fun v (t : Ty) => t.p v D2) hv e
    have e3 := e2 vs (at' k3 h3)
    rw [e3] at h1
    cases h1
    exact ⟨e1, t.up k3.q h2⟩
theorem evi_range1 {ta : TA} {n : Nat} (e : EvA ta σ D [tyI n]) (hn : n ≤ 100000) : EvI0 (iRng1 ta) σ D ((List.range n).map fun i => tyI (i : Nat)) := fun D1 H k h R q => e D1 H k h _ fun xs D2 H2 g2 tx => by
  cases tx with
  | cons h1 h2 =>
    cases h2
    have e1 : _ = V.int (n : Int) := h1
    subst e1
    refine ⟨(n : Int), rfl, by omega, by omega, q _ D2 H2 g2 ?_⟩
    rw [Int.toNat_natCast]
    refine ⟨fun i H3 k3 hi => ?_, fun H3 k3 => ?_, fun i t D3 H3 y H4 k3 h3 e y4 => ?_⟩
    · rw [List.length_map, List.length_range] at hi
      exact hi
    · rw [List.length_map, List.length_range]
      exact Nat.le_refl _
    · obtain ⟨e1, e2⟩ := y4
      rw [List.getElem?_map] at e
      cases hr : (List.range n)[i]? with
      | none => rw [hr] at e; cases e
      | some j =>
        rw [hr] at e
        cases e
        obtain ⟨hi, ej⟩ := List.getElem?_eq_some_iff.mp hr
        rw [List.getElem_range] at ej
        subst ej
        refine ⟨e1, ?_⟩
        rw [e2, Int.zero_add]
        exact rfl
def sign (c : Nat) : Str := ⟨#[c]⟩
theorem evi_str {z : Str} (e : Ev te σ D (tyS z)) : EvI0 (iStr te) σ D (z.cps.toList.map fun c => tyS (sign c)) := fun D1 H k h R q => e D1 H k h _ fun x D2 H2 g2 tx => by
  have e1 : x = .str z := tx
  subst e1
  refine ⟨_, rfl, q _ D2 H2 g2 ⟨fun i H3 k3 hi => ?_, fun H3 k3 => ?_, fun i t D3 H3 y H4 k3 h3 e y4 => ?_⟩⟩
  · rw [List.length_map] at hi
    show i < z.cps.size
    simpa using hi
  · show z.cps.size ≤ _
    simp
  · obtain ⟨e1, c, e2, e3⟩ := y4
    refine ⟨e1, ?_⟩
    rw [List.getElem?_map] at e
    have e2 : z.cps.toList[i]? = some c := by simpa using e2
    rw [e2] at e
    cases e
    exact e3

/-! ### comprehensions -/
def LcEl (g : TG) (tt : TT) (te : TE) (vs : List Nat) (σ : Sl) (D1 : Hp) (x : V) (o : Option Ty) : Prop :=
  ∀ H1, Kp D1 H1 → ∀ (QY : VK) (QN : Hp → Prop), (∀ t, o = some t → ∀ v D2 H2, Grow D1 H1 D2 H2 → t.p v D2 → QY v H2) → (o = none → ∀ D2 H2, Grow D1 H1 D2 H2 → QN H2) →
    g x (wipe σ vs) H1 fun σ2 H2 => wipe σ2 vs = wipe σ vs ∧ tt σ2 H2 fun b H3 => if b = true then te σ2 H3 QY else QN H3
theorem eb_yes : EvB tYes σ D true := fun D1 H k h Q q => q D1 H (Grow.refl h)
theorem lcel_if {j : Nat} {vs : List Nat} {x : V} {b : Bool} {o : Option Ty} (hw : wipe ((wipe σ vs).set j (some x)) vs = wipe σ vs) (eb : EvB tt ((wipe σ vs).set j (some x)) D b)
    (e1 : b = true → ∃ t, o = some t ∧ Ev te ((wipe σ vs).set j (some x)) D t) (e2 : b = false → o = none) : LcEl (gName j) tt te vs σ D x o := fun H1 h1 QY QN q1 q2 => by
  refine ⟨hw, eb.use h1 fun D2 H2 g2 => ?_⟩
  cases b with
  | true =>
    obtain ⟨t, ht, e⟩ := e1 rfl
    exact iteT ((e.up g2.d).use g2.dh fun v D3 H3 g3 tv => q1 t ht v D3 H3 (g2.trans g3) tv)
  | false => exact iteF (q2 (e2 rfl) D2 H2 g2)
theorem lcel {j : Nat} {vs : List Nat} {x : V} (hw : wipe ((wipe σ vs).set j (some x)) vs = wipe σ vs) (e : Ev te ((wipe σ vs).set j (some x)) D t) : LcEl (gName j) tYes te vs σ D x (some t) :=
  lcel_if hw eb_yes (fun _ => ⟨t, rfl, e⟩) fun h => by cases h

theorem take_one {α : Type} {l : List α} {i : Nat} {x : α} (h : l[i]? = some x) : l.take (i + 1) = l.take i ++ [x] := by
  rw [List.take_add_one, h]
  rfl
theorem nf_lst {l : List V} : NoFz (.lst l) := fun x y e => by cases e
theorem ev_lc {α : Type} {wi : TI} {g : TG} {vs : List Nat} {xs : List α} (τ : α → Ty) (out : α → Option Ty) (hi : EvI wi σ D (xs.map τ)) (hz : xs.length ≤ 100000)
    (hel : ∀ a ∈ xs, ∀ D1, Kp D D1 → ∀ x, (τ a).p x D1 → LcEl g tt te vs σ D1 x (out a)) : Ev (tLc wi g tt te vs) σ D (tyL (xs.filterMap out)) := fun D1 H k h Q q => hi D1 H k h _ fun J D2 H2 g2 w Dl hD => by
  refine ⟨fun i m H3 => m = xs.length - i ∧ i ≤ xs.length ∧ ∃ D3 acc, Grow D2 H2 D3 H3 ∧ D3 Dl = none ∧ H3 Dl = some (.lst acc) ∧ TysAt ((xs.take i).filterMap out) acc D3, ⟨xs.length, by simp, Nat.zero_le _, D2, [], (Grow.refl g2.dh).mut hD (g2.dh.dom hD) nf_lst, g2.dh.dom hD, upd_same, by
    rw [List.take_zero]
    exact .nil⟩, ?_⟩
  rintro i m H3 ⟨rfl, hi3, D3, acc, g3, n3, a3, t3⟩
  have hacc : acc.length ≤ xs.length := by
    rw [pr_len t3]
    exact Nat.le_trans (List.length_filterMap_le _ _) (by rw [List.length_take]; omega)
  by_cases hlt : i < xs.length
  · have hg : xs[i]? = some xs[i] := by simp [hlt]
    have hm : (xs.map τ)[i]? = some (τ xs[i]) := by rw [List.getElem?_map, hg]; rfl
    have tk := take_one hg
    refine .inr ⟨w.goes i H3 (g3.d.trans g3.dh) (by rw [List.length_map]; exact hlt), fun H4 => ∃ D4 acc, Grow D2 H2 D4 H4 ∧ D4 Dl = none ∧ H4 Dl = some (.lst acc) ∧ TysAt ((xs.take (i + 1)).filterMap out) acc D4,
      fun H4 ⟨D4, acc4, r⟩ => ⟨xs.length - (i + 1), by omega, rfl, hlt, D4, acc4, r⟩, fun x H4 y => ?_⟩
    obtain ⟨D4, g4, tx⟩ := w.yld i _ D3 H3 x H4 g3.d g3.dh hm y
    refine hel xs[i] (List.mem_of_getElem? hg) D4 (((k.trans g2.d).trans g3.d).trans g4.d) x tx H4 g4.dh _ _ (fun t ht v D5 H5 g5 tv => ?_) fun hn D5 H5 g5 => ?_
    · have gg := g4.trans g5
      refine ⟨acc, gg.h.q.fx (u := .lst acc) True.intro a3, Nat.lt_of_le_of_lt (Nat.le_trans hacc hz) (by decide), D5, acc ++ [v], (g3.trans gg).mut hD (gg.new n3 a3 True.intro) nf_lst, gg.new n3 a3 True.intro, upd_same, ?_⟩
      rw [tk, List.filterMap_append]
      show TysAt (_ ++ List.filterMap out [xs[i]]) _ _
      rw [List.filterMap_cons, ht, List.filterMap_nil]
      exact pr_app (TysAt.up gg.d.q t3) (.cons tv .nil)
    · have gg := g4.trans g5
      refine ⟨D5, acc, g3.trans gg, gg.new n3 a3 True.intro, gg.h.q.fx (u := .lst acc) True.intro a3, ?_⟩
      rw [tk, List.filterMap_append, List.filterMap_cons, hn, List.filterMap_nil, List.append_nil]
      exact TysAt.up gg.d.q t3
  · have e : i = xs.length := by omega
    subst e
    rw [List.take_length] at t3
    have st := w.stops H3 (g3.d.trans g3.dh)
    rw [List.length_map] at st
    exact .inl ⟨st, q (.ref Dl) _ H3 (g2.trans (g3.own hD n3 a3 (.inl True.intro))) ⟨Dl, acc, rfl, upd_same, TysAt.up (Kp.new n3 nf_lst).q t3⟩⟩
/-- a comprehension without ifs -/
theorem ev_lcm {α : Type} {wi : TI} {g : TG} {vs : List Nat} {xs : List α} (τ : α → Ty) (out : α → Ty) (hi : EvI wi σ D (xs.map τ)) (hz : xs.length ≤ 100000)
    (hel : ∀ a ∈ xs, ∀ D1, Kp D D1 → ∀ x, (τ a).p x D1 → LcEl g tYes te vs σ D1 x (some (out a))) : Ev (tLc wi g tYes te vs) σ D (tyL (xs.map out)) := by
  have := ev_lc (te := te) (tt := tYes) (g := g) (vs := vs) τ (fun a => some (out a)) hi hz hel
  rw [List.filterMap_eq_map'] at this
  exact this

/-- .. a dict comprehension, its keys all different -/
def DcEl (g : TG) (tk tv : TE) (vs : List Nat) (σ : Sl) (D1 : Hp) (x : V) (ky : V) (t : Ty) : Prop :=
  ∀ H1, Kp D1 H1 → ∀ (QY : V → V → Hp → Prop) (QN : Hp → Prop), (∀ z D2 H2, Grow D1 H1 D2 H2 → t.p z D2 → QY ky z H2) →
    g x (wipe σ vs) H1 fun σ2 H2 => wipe σ2 vs = wipe σ vs ∧ tYes σ2 H2 fun b H3 => if b = true then tk σ2 H3 fun y H4 => tv σ2 H4 fun z H5 => QY y z H5 else QN H3
theorem dcel {j : Nat} {vs : List Nat} {x ky : V} (hw : wipe ((wipe σ vs).set j (some x)) vs = wipe σ vs) (e1 : Ev tk ((wipe σ vs).set j (some x)) D (tyV ky)) (e2 : Ev tv ((wipe σ vs).set j (some x)) D t) : DcEl (gName j) tk tv vs σ D x ky t := fun H1 h1 QY QN q =>
  ⟨hw, iteT (B := QN H1) (e1.use h1 fun y D2 H2 g2 hy => (e2.up g2.d).use g2.dh fun z D3 H3 g3 tz => by
    have hy : y = ky := hy
    rw [hy]
    exact q z D3 H3 (g2.trans g3) tz)⟩
theorem nf_dK {l : List (Key × V)} : NoFz (.dK l) := fun x y e => by cases e
theorem nf_dT {l : List (List Key × V)} : NoFz (.dT l) := fun x y e => by cases e
/-- an unlocked dict stays so -/
theorem Kp.exact {H H' : Hp} {d : Addr} {u : HO} (k : Kp H H') (s : Soft u) (h : H d = some u) : H' d = some u := by
  rcases k.q.sf s (.inl h) with r | ⟨o, r⟩
  · exact r
  · have := k.nl.mpr r
    rw [h] at this
    cases this
theorem KvsAt.keys {κ : Type} {kts : List (κ × Ty)} {kvs : List (κ × V)} {H : Hp} (h : KvsAt kts kvs H) : kvs.map (·.1) = kts.map (·.1) := by
  induction h with
  | nil => rfl
  | cons r _ ih => rw [List.map_cons, List.map_cons, ih, r.1]
theorem valV_no {κ : Type} [DecidableEq κ] {k : κ} : ∀ {kvs : List (κ × V)}, k ∉ kvs.map (·.1) → valV kvs k = none
  | [], _ => rfl
  | p :: r, h => by
    rw [List.map_cons, List.mem_cons, not_or] at h
    exact (valV_neg (fun z => h.1 z.symm)).trans (valV_no h.2)
theorem ev_dc {α : Type} {wi : TI} {g : TG} {vs : List Nat} {xs : List α} (τ : α → Ty) (key : α → Key) (out : α → Ty) (hi : EvI wi σ D (xs.map τ)) (nd : (xs.map key).Nodup) (hz : xs.length ≤ 100000)
    (hel : ∀ a ∈ xs, ∀ D1, Kp D D1 → ∀ x, (τ a).p x D1 → DcEl g tk tv vs σ D1 x (kV (key a)) (out a)) : Ev (tDc wi g tYes tk tv vs) σ D (tyD (xs.map fun a => (key a, out a))) := fun D1 H k h Q q => hi D1 H k h _ fun J D2 H2 g2 w Dl hD => by
  refine ⟨fun i m H3 => m = xs.length - i ∧ i ≤ xs.length ∧ ∃ D3 acc, Grow D2 H2 D3 H3 ∧ D3 Dl = none ∧ H3 Dl = some (.dK acc) ∧ KvsAt ((xs.take i).map fun a => (key a, out a)) acc D3, ⟨xs.length, by simp, Nat.zero_le _, D2, [], (Grow.refl g2.dh).mut hD (g2.dh.dom hD) nf_dK, g2.dh.dom hD, upd_same, by
    rw [List.take_zero]
    exact .nil⟩, ?_⟩
  rintro i m H3 ⟨rfl, hi3, D3, acc, g3, n3, a3, t3⟩
  have hacc : acc.length ≤ xs.length := by
    rw [pr_len t3, List.length_map, List.length_take]
    omega
  by_cases hlt : i < xs.length
  · have hg : xs[i]? = some xs[i] := by simp [hlt]
    have hm : (xs.map τ)[i]? = some (τ xs[i]) := by rw [List.getElem?_map, hg]; rfl
    have tk1 := take_one hg
    refine .inr ⟨w.goes i H3 (g3.d.trans g3.dh) (by rw [List.length_map]; exact hlt), fun H4 => ∃ D4 acc, Grow D2 H2 D4 H4 ∧ D4 Dl = none ∧ H4 Dl = some (.dK acc) ∧ KvsAt ((xs.take (i + 1)).map fun a => (key a, out a)) acc D4,
      fun H4 ⟨D4, acc4, r⟩ => ⟨xs.length - (i + 1), by omega, rfl, hlt, D4, acc4, r⟩, fun x H4 y => ?_⟩
    obtain ⟨D4, g4, tx⟩ := w.yld i _ D3 H3 x H4 g3.d g3.dh hm y
    refine hel xs[i] (List.mem_of_getElem? hg) D4 (((k.trans g2.d).trans g3.d).trans g4.d) x tx H4 g4.dh (fun y z H5 => ∃ kvs k, y = kV k ∧ H5 Dl = some (.dK kvs) ∧ kvs.length < sizeLine ∧ ∃ D6 acc, Grow D2 H2 D6 (upd H5 Dl (.dK (putK kvs k z))) ∧ D6 Dl = none ∧ (upd H5 Dl (.dK (putK kvs k z))) Dl = some (.dK acc) ∧ KvsAt ((xs.take (i + 1)).map fun a => (key a, out a)) acc D6) _ (fun z D5 H5 g5 tz => ?_)
    have gg := g4.trans g5
    have hno : key xs[i] ∉ acc.map (·.1) := by
      rw [t3.keys, List.map_map]
      intro hm2
      obtain ⟨j, hj, ej⟩ := List.getElem_of_mem hm2
      have hj2 : j < i := by
        rw [List.length_map, List.length_take] at hj
        omega
      have ej2 : key (xs[j]'(by omega)) = key xs[i] := by
        rw [← ej]
        simp
      have hja : (xs.map key)[j]? = some (key xs[i]) := by rw [List.getElem?_map, List.getElem?_eq_getElem (by omega), ← ej2]; rfl
      have hia : (xs.map key)[i]? = some (key xs[i]) := by rw [List.getElem?_map, hg]; rfl
      have := nd_ix nd hja hia
      omega
    have hp : putK acc (key xs[i]) z = acc ++ [(key xs[i], z)] := putK_new z (valV_no hno)
    refine ⟨acc, key xs[i], rfl, gg.h.exact (u := .dK acc) True.intro a3, Nat.lt_of_le_of_lt (Nat.le_trans hacc hz) (by decide), D5, _, (g3.trans gg).mut hD (gg.new n3 a3 True.intro) nf_dK, gg.new n3 a3 True.intro, upd_same, ?_⟩
    rw [hp, tk1, List.map_append]
    exact pr_app (KvsAt.up gg.d.q t3) (.cons ⟨rfl, tz⟩ .nil)
  · have e : i = xs.length := by omega
    subst e
    rw [List.take_length] at t3
    have st := w.stops H3 (g3.d.trans g3.dh)
    rw [List.length_map] at st
    exact .inl ⟨st, q (.ref Dl) _ H3 (g2.trans (g3.own hD n3 a3 (.inr True.intro))) ⟨Dl, acc, rfl, .inl upd_same, KvsAt.up (Kp.new n3 nf_dK).q t3⟩⟩
end
end K02
set_option Elab.async false
set_option linter.all false
set_option maxRecDepth 100000
set_option maxHeartbeats 0
/-! What the program's top leaves: the names, the defs, and of each class what isinstance asks. -/
namespace K02
open PySem PySem.Spec PyProof.Rows L2
/-- what isinstance asks of an own class -/
def insOk (K : PySem.W.Frag) (x : Str) : Bool :=
  decide (PySem.W.findIn K (.ref (He.ga K x)) "__class__" = some (some (.builtin "object.__class__"))) && (decide (PySem.W.specialIn K (.builtin "object.__class__") "__get__" = some (some (.builtin "getset_descriptor.__get__"))) &&
  (decide (PySem.W.takesIn K (.builtin "object.__class__") = some true) && (decide (PySem.W.mroIn K (He.ga K x) (.type "object") = some true) && decide (PySem.W.kitOne K (.ref (He.ga K x)) (.ref (He.ga K x)) = some true))))
def exOk (K : PySem.W.Frag) : Bool := insOk K "Program" && (insOk K "Thrifty" && insOk K "Twice")
abbrev AlX : Type := He.AlD × Bool
def obsX (g : Addr → Option Obj) : AlX := (He.obsDG 4 fas fns g, exOk (He.frG g (He.asD g 4)))
def hookX : PySem.W.Hook where
  α := AlX
  obs := fun s => obsX s.heap.get?
  val := fun _ => (He.valD fns, true)
  says := fun _ h => ∃ K : PySem.W.Frag, K.In h ∧ He.SaysD fas fns K ∧ exOk K = true
  of := fun _ _ e => ⟨_, He.frG_in, congrArg (fun z : AlX => z.1) e, congrArg (fun z : AlX => z.2) e⟩
  keeps := fun _ _ _ ⟨K, hK, c⟩ k => ⟨K, PySem.W.Frag.In.keeps hK k, c⟩
def obX (s : PySem.W.SharedT) : AlX := obsX (HandSHeadRun.getT s)
theorem obX_eq (s : PySem.W.SharedT) : obX s = hookX.obs s.abs := by
  have e : HandSHeadRun.getT s = s.abs.heap.get? := funext fun a => HandSHeadRun.getT_eq s a
  show obsX _ = obsX _
  rw [e]
theorem insC_of {K : PySem.W.Frag} {x : Str} (cl : Cls K (He.ga K x)) (h : insOk K x = true) : C8.InsC K (He.ga K x) := by
  obtain ⟨h1, h⟩ := He.ba h
  obtain ⟨h2, h⟩ := He.ba h
  obtain ⟨h3, h⟩ := He.ba h
  obtain ⟨h4, h5⟩ := He.ba h
  exact ⟨cl, of_decide_eq_true h1, of_decide_eq_true h2, of_decide_eq_true h3, of_decide_eq_true h4, of_decide_eq_true h5⟩
end K02
set_option Elab.async false
set_option linter.all false
set_option maxRecDepth 100000
set_option maxHeartbeats 4000000
/-! The facts of the top by names; each def's slots and how it is called. Printed by a program. -/
namespace K02
open PySem PySem.Spec PyProof.Rows L2
structure Fc (K : PySem.W.Frag) (mg : Str → Option Value) : Prop where
  c : He.SaysD fas fns K
  x : exOk K = true
  h : ∃ hp : Heap, K.In hp ∧ hp.Ns mainGlobals mg
abbrev CP (K : PySem.W.Frag) : Addr := He.ga K "Program"
abbrev CT (K : PySem.W.Frag) : Addr := He.ga K "Thrifty"
abbrev CW (K : PySem.W.Frag) : Addr := He.ga K "Twice"
/-- a def that may be called by its name -/
structure Cal (P : Program) (w : World) (K : PySem.W.Frag) (mg : Str → Option Value) (base : Heap) (k : Nat) (x : Str) (sp : Sp) : Prop where
  ex : ∃ (f : Addr) (fd : FuncData) (ps : List Str), FnOk P w K mg base CX0 k f fd ps sp ∧ mg x = some (.ref f) ∧ PySem.W.keepIn K (.ref f) = true ∧ Binds K fd ps []
structure Met (P : Program) (w : World) (K : PySem.W.Frag) (mg : Str → Option Value) (base : Heap) (k : Nat) (C : Addr) (m : Str) (sp : Sp) : Prop where
  ex : ∃ (f : Addr) (fd : FuncData) (ps : List Str), Cls K C ∧ Meth K C m f ∧ FnOk P w K mg base CX0 k f fd ps sp ∧ Binds K fd ps []
structure Mak (P : Program) (w : World) (K : PySem.W.Frag) (mg : Str → Option Value) (base : Heap) (k : Nat) (x : Str) (C : Addr) (sp : Sp) : Prop where
  ex : ∃ (f : Addr) (fd : FuncData) (ps : List Str), Mk K C f ∧ FnOk P w K mg base CX0 k f fd ps sp ∧ mg x = some (.ref C) ∧ Binds K fd ps []
section
variable {X : Cx} {k j : Nat} {C : Addr} {x m : Str} {sp : Sp} {p pos apos : Pos} {e o : Expr} {es : List Expr} {ta : TE} {t : TA}
theorem pe_cal (c : Cal X.prog X.w X.K X.mg X.base k x sp) (hr : Room j X.A) (hk : k ≤ j) (hg : Gl X x) (ha : PA X (e :: es) t)
    (hdb : (x == ("__debug__" : Str)) = false := by decide) (he : starEach (e :: es) X.env = (false, eval e X.env) :: starEach es X.env := by rfl) (hpl : (backTo pos (starEach es X.env)).any (·.1) = false := by rfl) :
    PE X (.Call (.Name x p) (e :: es) [] pos) (tCall sp [] E0 t) := by
  obtain ⟨f, fd, ps, F, hm, kp, b⟩ := c.ex
  exact pe_call F (hr.mono hk) hg hm kp b .nil pass0 ha hdb he hpl
theorem pe_mak (c : Mak X.prog X.w X.K X.mg X.base k x C sp) (hr : Room j X.A) (hk : k + 1 ≤ j) (hg : Gl X x) (ha : PA X (e :: es) t)
    (hdb : (x == ("__debug__" : Str)) = false := by decide) (he : starEach (e :: es) X.env = (false, eval e X.env) :: starEach es X.env := by rfl) (hpl : (backTo pos (starEach es X.env)).any (·.1) = false := by rfl) :
    PE X (.Call (.Name x p) (e :: es) [] pos) (tMake C sp [] E0 t) := by
  obtain ⟨f, fd, ps, M, F, hm, b⟩ := c.ex
  exact pe_make M F (hr.mono hk) hg hm b .nil pass0 ha hdb he hpl
theorem pe_met {pl : Sem Bool} (c : Met X.prog X.w X.K X.mg X.base k C m sp) (hr : Room j X.A) (hk : k ≤ j) (he : PE X o ta) (ha : PA X (e :: es) t)
    (hst : starEach (e :: es) X.env = (false, eval e X.env) :: starEach es X.env := by rfl) (hpl : (backTo pos (starEach es X.env)).any (·.1) = false := by rfl)
    (ht : eval (.Call (.Attribute o m apos) (e :: es) [] pos) X.env = (do
      let ov ← eval o X.env
      standAt apos.atName
      let (f, first) ← holding [ov] (getMethod ov m pl)
      callWith pos f first (backTo pos (starEach (e :: es) X.env)) (backToKw pos (keywordEach [] X.env))) := by rfl) :
    PE X (.Call (.Attribute o m apos) (e :: es) [] pos) (tMeth C m sp [] E0 ta t) := by
  obtain ⟨f, fd, ps, hc, hm, F, b⟩ := c.ex
  exact pe_meth (pl := pl) he hc hm F (hr.mono hk) b .nil pass0 ha hst hpl ht
theorem pe_met0 {pl : Sem Bool} (c : Met X.prog X.w X.K X.mg X.base k C m sp) (hr : Room j X.A) (hk : k ≤ j) (he : PE X o ta)
    (ht : eval (.Call (.Attribute o m apos) [] [] pos) X.env = (do
      let ov ← eval o X.env
      standAt apos.atName
      let (f, first) ← holding [ov] (getMethod ov m pl)
      callWith pos f first (backTo pos (starEach [] X.env)) (backToKw pos (keywordEach [] X.env))) := by rfl) :
    PE X (.Call (.Attribute o m apos) [] [] pos) (tMeth C m sp [] E0 ta tNil) := by
  obtain ⟨f, fd, ps, hc, hm, F, b⟩ := c.ex
  exact pe_meth0 (pl := pl) he hc hm F (hr.mono hk) b .nil pass0 ht
end
section
variable {P : Program} {w : World} {K : PySem.W.Frag} {mg : Str → Option Value} {base : Heap} {k : Nat} {sp : Sp}
theorem Fc.f_isinstance (F : Fc K mg) : mg "isinstance" = none := by
  obtain ⟨h, X, G⟩ := F.h
  exact He.free_ok X G (F.c.fact 0 rfl)
theorem Fc.f_int (F : Fc K mg) : mg "int" = none := by
  obtain ⟨h, X, G⟩ := F.h
  exact He.free_ok X G (F.c.fact 1 rfl)
theorem Fc.f_bool (F : Fc K mg) : mg "bool" = none := by
  obtain ⟨h, X, G⟩ := F.h
  exact He.free_ok X G (F.c.fact 2 rfl)
theorem Fc.f_str (F : Fc K mg) : mg "str" = none := by
  obtain ⟨h, X, G⟩ := F.h
  exact He.free_ok X G (F.c.fact 3 rfl)
theorem Fc.f_len (F : Fc K mg) : mg "len" = none := by
  obtain ⟨h, X, G⟩ := F.h
  exact He.free_ok X G (F.c.fact 4 rfl)
theorem Fc.f_all (F : Fc K mg) : mg "all" = none := by
  obtain ⟨h, X, G⟩ := F.h
  exact He.free_ok X G (F.c.fact 5 rfl)
theorem Fc.f_any (F : Fc K mg) : mg "any" = none := by
  obtain ⟨h, X, G⟩ := F.h
  exact He.free_ok X G (F.c.fact 6 rfl)
theorem Fc.f_set (F : Fc K mg) : mg "set" = none := by
  obtain ⟨h, X, G⟩ := F.h
  exact He.free_ok X G (F.c.fact 7 rfl)
theorem Fc.f_tuple (F : Fc K mg) : mg "tuple" = none := by
  obtain ⟨h, X, G⟩ := F.h
  exact He.free_ok X G (F.c.fact 8 rfl)
theorem Fc.f_list (F : Fc K mg) : mg "list" = none := by
  obtain ⟨h, X, G⟩ := F.h
  exact He.free_ok X G (F.c.fact 9 rfl)
theorem Fc.f_dict (F : Fc K mg) : mg "dict" = none := by
  obtain ⟨h, X, G⟩ := F.h
  exact He.free_ok X G (F.c.fact 10 rfl)
theorem Fc.f_range (F : Fc K mg) : mg "range" = none := by
  obtain ⟨h, X, G⟩ := F.h
  exact He.free_ok X G (F.c.fact 11 rfl)
theorem Fc.f_sorted (F : Fc K mg) : mg "sorted" = none := by
  obtain ⟨h, X, G⟩ := F.h
  exact He.free_ok X G (F.c.fact 12 rfl)
theorem Fc.f_enumerate (F : Fc K mg) : mg "enumerate" = none := by
  obtain ⟨h, X, G⟩ := F.h
  exact He.free_ok X G (F.c.fact 13 rfl)
theorem Fc.g_is_whole (F : Fc K mg) : mg "is_whole" = some (.ref (He.ga K "is_whole")) := by
  obtain ⟨h, X, G⟩ := F.h
  exact He.glo_ok X G (F.c.fact 14 rfl)
theorem Fc.g_is_word (F : Fc K mg) : mg "is_word" = some (.ref (He.ga K "is_word")) := by
  obtain ⟨h, X, G⟩ := F.h
  exact He.glo_ok X G (F.c.fact 15 rfl)
theorem Fc.g_is_signs (F : Fc K mg) : mg "is_signs" = some (.ref (He.ga K "is_signs")) := by
  obtain ⟨h, X, G⟩ := F.h
  exact He.glo_ok X G (F.c.fact 16 rfl)
theorem Fc.g_are_letters (F : Fc K mg) : mg "are_letters" = some (.ref (He.ga K "are_letters")) := by
  obtain ⟨h, X, G⟩ := F.h
  exact He.glo_ok X G (F.c.fact 17 rfl)
theorem Fc.g_is_row (F : Fc K mg) : mg "is_row" = some (.ref (He.ga K "is_row")) := by
  obtain ⟨h, X, G⟩ := F.h
  exact He.glo_ok X G (F.c.fact 18 rfl)
theorem Fc.g_joined (F : Fc K mg) : mg "joined" = some (.ref (He.ga K "joined")) := by
  obtain ⟨h, X, G⟩ := F.h
  exact He.glo_ok X G (F.c.fact 19 rfl)
theorem Fc.g_registers_in (F : Fc K mg) : mg "registers_in" = some (.ref (He.ga K "registers_in")) := by
  obtain ⟨h, X, G⟩ := F.h
  exact He.glo_ok X G (F.c.fact 20 rfl)
theorem Fc.g_text_of (F : Fc K mg) : mg "text_of" = some (.ref (He.ga K "text_of")) := by
  obtain ⟨h, X, G⟩ := F.h
  exact He.glo_ok X G (F.c.fact 21 rfl)
theorem Fc.g_is_step (F : Fc K mg) : mg "is_step" = some (.ref (He.ga K "is_step")) := by
  obtain ⟨h, X, G⟩ := F.h
  exact He.glo_ok X G (F.c.fact 22 rfl)
theorem Fc.g_whole_rows (F : Fc K mg) : mg "whole_rows" = some (.ref (He.ga K "whole_rows")) := by
  obtain ⟨h, X, G⟩ := F.h
  exact He.glo_ok X G (F.c.fact 23 rfl)
theorem Fc.g_check_program (F : Fc K mg) : mg "check_program" = some (.ref (He.ga K "check_program")) := by
  obtain ⟨h, X, G⟩ := F.h
  exact He.glo_ok X G (F.c.fact 24 rfl)
theorem Fc.g_has_twice (F : Fc K mg) : mg "has_twice" = some (.ref (He.ga K "has_twice")) := by
  obtain ⟨h, X, G⟩ := F.h
  exact He.glo_ok X G (F.c.fact 25 rfl)
theorem Fc.g_is_plain (F : Fc K mg) : mg "is_plain" = some (.ref (He.ga K "is_plain")) := by
  obtain ⟨h, X, G⟩ := F.h
  exact He.glo_ok X G (F.c.fact 26 rfl)
theorem Fc.g_backwards (F : Fc K mg) : mg "backwards" = some (.ref (He.ga K "backwards")) := by
  obtain ⟨h, X, G⟩ := F.h
  exact He.glo_ok X G (F.c.fact 27 rfl)
theorem Fc.g_uses_of (F : Fc K mg) : mg "uses_of" = some (.ref (He.ga K "uses_of")) := by
  obtain ⟨h, X, G⟩ := F.h
  exact He.glo_ok X G (F.c.fact 28 rfl)
theorem Fc.g_is_listed (F : Fc K mg) : mg "is_listed" = some (.ref (He.ga K "is_listed")) := by
  obtain ⟨h, X, G⟩ := F.h
  exact He.glo_ok X G (F.c.fact 29 rfl)
theorem Fc.g_count_of (F : Fc K mg) : mg "count_of" = some (.ref (He.ga K "count_of")) := by
  obtain ⟨h, X, G⟩ := F.h
  exact He.glo_ok X G (F.c.fact 30 rfl)
theorem Fc.g_first_text (F : Fc K mg) : mg "first_text" = some (.ref (He.ga K "first_text")) := by
  obtain ⟨h, X, G⟩ := F.h
  exact He.glo_ok X G (F.c.fact 31 rfl)
theorem Fc.g_judge_thrifty (F : Fc K mg) : mg "judge_thrifty" = some (.ref (He.ga K "judge_thrifty")) := by
  obtain ⟨h, X, G⟩ := F.h
  exact He.glo_ok X G (F.c.fact 32 rfl)
theorem Fc.g_first_twice (F : Fc K mg) : mg "first_twice" = some (.ref (He.ga K "first_twice")) := by
  obtain ⟨h, X, G⟩ := F.h
  exact He.glo_ok X G (F.c.fact 33 rfl)
theorem Fc.g__law_cell_at (F : Fc K mg) : mg "_law_cell_at" = some (.ref (He.ga K "_law_cell_at")) := by
  obtain ⟨h, X, G⟩ := F.h
  exact He.glo_ok X G (F.c.fact 34 rfl)
theorem Fc.g__law_draw (F : Fc K mg) : mg "_law_draw" = some (.ref (He.ga K "_law_draw")) := by
  obtain ⟨h, X, G⟩ := F.h
  exact He.glo_ok X G (F.c.fact 35 rfl)
theorem Fc.g__law_number (F : Fc K mg) : mg "_law_number" = some (.ref (He.ga K "_law_number")) := by
  obtain ⟨h, X, G⟩ := F.h
  exact He.glo_ok X G (F.c.fact 36 rfl)
theorem Fc.g__law_next (F : Fc K mg) : mg "_law_next" = some (.ref (He.ga K "_law_next")) := by
  obtain ⟨h, X, G⟩ := F.h
  exact He.glo_ok X G (F.c.fact 37 rfl)
theorem Fc.g__law_pick (F : Fc K mg) : mg "_law_pick" = some (.ref (He.ga K "_law_pick")) := by
  obtain ⟨h, X, G⟩ := F.h
  exact He.glo_ok X G (F.c.fact 38 rfl)
theorem Fc.g__law_rows (F : Fc K mg) : mg "_law_rows" = some (.ref (He.ga K "_law_rows")) := by
  obtain ⟨h, X, G⟩ := F.h
  exact He.glo_ok X G (F.c.fact 39 rfl)
theorem Fc.g__law_end (F : Fc K mg) : mg "_law_end" = some (.ref (He.ga K "_law_end")) := by
  obtain ⟨h, X, G⟩ := F.h
  exact He.glo_ok X G (F.c.fact 40 rfl)
theorem Fc.g__law_program (F : Fc K mg) : mg "_law_program" = some (.ref (He.ga K "_law_program")) := by
  obtain ⟨h, X, G⟩ := F.h
  exact He.glo_ok X G (F.c.fact 41 rfl)
theorem Fc.g__law_write (F : Fc K mg) : mg "_law_write" = some (.ref (He.ga K "_law_write")) := by
  obtain ⟨h, X, G⟩ := F.h
  exact He.glo_ok X G (F.c.fact 42 rfl)
theorem Fc.g__law_uses (F : Fc K mg) : mg "_law_uses" = some (.ref (He.ga K "_law_uses")) := by
  obtain ⟨h, X, G⟩ := F.h
  exact He.glo_ok X G (F.c.fact 43 rfl)
theorem Fc.g__law_has_twice (F : Fc K mg) : mg "_law_has_twice" = some (.ref (He.ga K "_law_has_twice")) := by
  obtain ⟨h, X, G⟩ := F.h
  exact He.glo_ok X G (F.c.fact 44 rfl)
theorem Fc.g__law_reached (F : Fc K mg) : mg "_law_reached" = some (.ref (He.ga K "_law_reached")) := by
  obtain ⟨h, X, G⟩ := F.h
  exact He.glo_ok X G (F.c.fact 45 rfl)
theorem Fc.g__law_lives (F : Fc K mg) : mg "_law_lives" = some (.ref (He.ga K "_law_lives")) := by
  obtain ⟨h, X, G⟩ := F.h
  exact He.glo_ok X G (F.c.fact 46 rfl)
theorem Fc.g_law (F : Fc K mg) : mg "law" = some (.ref (He.ga K "law")) := by
  obtain ⟨h, X, G⟩ := F.h
  exact He.glo_ok X G (F.c.fact 47 rfl)
theorem Fc.g_Program (F : Fc K mg) : mg "Program" = some (.ref (He.ga K "Program")) := by
  obtain ⟨h, X, G⟩ := F.h
  exact He.glo_ok X G (F.c.fact 48 rfl)
theorem Fc.cls_Program (F : Fc K mg) : Cls K (He.ga K "Program") := He.cls_ok (F.c.fact 49 rfl)
theorem Fc.mkr_Program (F : Fc K mg) : Mk K (He.ga K "Program") (He.ma K (He.ga K "Program") "__init__") := He.mkr_ok (F.c.fact 50 rfl)
theorem Fc.g_Thrifty (F : Fc K mg) : mg "Thrifty" = some (.ref (He.ga K "Thrifty")) := by
  obtain ⟨h, X, G⟩ := F.h
  exact He.glo_ok X G (F.c.fact 52 rfl)
theorem Fc.cls_Thrifty (F : Fc K mg) : Cls K (He.ga K "Thrifty") := He.cls_ok (F.c.fact 53 rfl)
theorem Fc.mkr_Thrifty (F : Fc K mg) : Mk K (He.ga K "Thrifty") (He.ma K (He.ga K "Thrifty") "__init__") := He.mkr_ok (F.c.fact 54 rfl)
theorem Fc.g_Twice (F : Fc K mg) : mg "Twice" = some (.ref (He.ga K "Twice")) := by
  obtain ⟨h, X, G⟩ := F.h
  exact He.glo_ok X G (F.c.fact 56 rfl)
theorem Fc.cls_Twice (F : Fc K mg) : Cls K (He.ga K "Twice") := He.cls_ok (F.c.fact 57 rfl)
theorem Fc.mkr_Twice (F : Fc K mg) : Mk K (He.ga K "Twice") (He.ma K (He.ga K "Twice") "__init__") := He.mkr_ok (F.c.fact 58 rfl)
theorem Fc.no_Program_letters (F : Fc K mg) : NoAttr K (He.ga K "Program") "letters" := He.noat_ok (F.c.fact 60 rfl)
theorem Fc.no_Program_states (F : Fc K mg) : NoAttr K (He.ga K "Program") "states" := He.noat_ok (F.c.fact 61 rfl)
theorem Fc.no_Program_registers (F : Fc K mg) : NoAttr K (He.ga K "Program") "registers" := He.noat_ok (F.c.fact 62 rfl)
theorem Fc.no_Program_firsts (F : Fc K mg) : NoAttr K (He.ga K "Program") "firsts" := He.noat_ok (F.c.fact 63 rfl)
theorem Fc.no_Program_steps (F : Fc K mg) : NoAttr K (He.ga K "Program") "steps" := He.noat_ok (F.c.fact 64 rfl)
theorem Fc.no_Program_ends (F : Fc K mg) : NoAttr K (He.ga K "Program") "ends" := He.noat_ok (F.c.fact 65 rfl)
theorem Fc.no_Thrifty_lives (F : Fc K mg) : NoAttr K (He.ga K "Thrifty") "lives" := He.noat_ok (F.c.fact 66 rfl)
theorem Fc.no_Twice_text (F : Fc K mg) : NoAttr K (He.ga K "Twice") "text" := He.noat_ok (F.c.fact 67 rfl)
theorem Fc.no_Twice_rest (F : Fc K mg) : NoAttr K (He.ga K "Twice") "rest" := He.noat_ok (F.c.fact 68 rfl)
theorem Fc.no_Twice_name (F : Fc K mg) : NoAttr K (He.ga K "Twice") "name" := He.noat_ok (F.c.fact 69 rfl)
theorem Fc.m_Program_init (F : Fc K mg) : Meth K (He.ga K "Program") "__init__" (He.ma K (He.ga K "Program") "__init__") := He.meth_ok (F.c.fact 70 rfl)
theorem Fc.m_Program_check (F : Fc K mg) : Meth K (He.ga K "Program") "check" (He.ma K (He.ga K "Program") "check") := He.meth_ok (F.c.fact 71 rfl)
theorem Fc.m_Program_after (F : Fc K mg) : Meth K (He.ga K "Program") "after" (He.ma K (He.ga K "Program") "after") := He.meth_ok (F.c.fact 72 rfl)
theorem Fc.m_Program_reached (F : Fc K mg) : Meth K (He.ga K "Program") "reached" (He.ma K (He.ga K "Program") "reached") := He.meth_ok (F.c.fact 73 rfl)
theorem Fc.m_Thrifty_init (F : Fc K mg) : Meth K (He.ga K "Thrifty") "__init__" (He.ma K (He.ga K "Thrifty") "__init__") := He.meth_ok (F.c.fact 74 rfl)
theorem Fc.m_Thrifty_eq (F : Fc K mg) : Meth K (He.ga K "Thrifty") "__eq__" (He.ma K (He.ga K "Thrifty") "__eq__") := He.meth_ok (F.c.fact 75 rfl)
theorem Fc.m_Thrifty_bool (F : Fc K mg) : Meth K (He.ga K "Thrifty") "__bool__" (He.ma K (He.ga K "Thrifty") "__bool__") := He.meth_ok (F.c.fact 76 rfl)
theorem Fc.m_Thrifty_shows (F : Fc K mg) : Meth K (He.ga K "Thrifty") "shows" (He.ma K (He.ga K "Thrifty") "shows") := He.meth_ok (F.c.fact 77 rfl)
theorem Fc.m_Twice_init (F : Fc K mg) : Meth K (He.ga K "Twice") "__init__" (He.ma K (He.ga K "Twice") "__init__") := He.meth_ok (F.c.fact 78 rfl)
theorem Fc.m_Twice_eq (F : Fc K mg) : Meth K (He.ga K "Twice") "__eq__" (He.ma K (He.ga K "Twice") "__eq__") := He.meth_ok (F.c.fact 79 rfl)
theorem Fc.m_Twice_bool (F : Fc K mg) : Meth K (He.ga K "Twice") "__bool__" (He.ma K (He.ga K "Twice") "__bool__") := He.meth_ok (F.c.fact 80 rfl)
theorem Fc.m_Twice_shows (F : Fc K mg) : Meth K (He.ga K "Twice") "shows" (He.ma K (He.ga K "Twice") "shows") := He.meth_ok (F.c.fact 81 rfl)
theorem Fc.i_MOST_LETTERS (F : Fc K mg) : ∃ t, mg "MOST_LETTERS" = some (.int 4 t) := by
  obtain ⟨h, X, G⟩ := F.h
  exact He.int_ok X G (F.c.fact 82 rfl)
theorem Fc.i_MOST_STATES (F : Fc K mg) : ∃ t, mg "MOST_STATES" = some (.int 300 t) := by
  obtain ⟨h, X, G⟩ := F.h
  exact He.int_ok X G (F.c.fact 83 rfl)
theorem Fc.i_MOST_REGISTERS (F : Fc K mg) : ∃ t, mg "MOST_REGISTERS" = some (.int 60 t) := by
  obtain ⟨h, X, G⟩ := F.h
  exact He.int_ok X G (F.c.fact 84 rfl)
theorem Fc.i_MOST_LIVES (F : Fc K mg) : ∃ t, mg "MOST_LIVES" = some (.int 4000 t) := by
  obtain ⟨h, X, G⟩ := F.h
  exact He.int_ok X G (F.c.fact 85 rfl)
theorem Fc.s_SMALL (F : Fc K mg) : ∃ t, mg "SMALL" = some (.str "abcdefghijklmnopqrstuvwxyz" t) := by
  obtain ⟨h, X, G⟩ := F.h
  exact He.str_ok X G (F.c.fact 86 rfl)
theorem Fc.s_SIGNS (F : Fc K mg) : ∃ t, mg "SIGNS" = some (.str "abcdefghijklmnopqrstuvwxyz0123456789" t) := by
  obtain ⟨h, X, G⟩ := F.h
  exact He.str_ok X G (F.c.fact 87 rfl)
-- is_whole: 0 thing
abbrev n_is_whole : List Str := ["thing"]
theorem sc_is_whole : FnScope n_is_whole ["thing"] (defScope s_is_whole) := ⟨rfl, rfl, rfl, by decide +kernel, rfl, by decide +kernel, by decide +kernel⟩
theorem mk_is_whole (F : Fc K mg) (len : ∀ vs H Q E, sp vs H Q E → vs.length = 1)
    (hb : ∀ (f : Addr) (cdv : Value) (A : Around) (outer : List Env) (s : Shared) (H : Hp) (vs : List V) (Q : VK) (E : XK), Room k (A.deeper (envOfC "is_whole" (defScope s_is_whole) s.heap.objs.size f cdv)) → sp vs H Q E →
      ∃ t, PSs (cxOf CX0 P w K mg base n_is_whole "is_whole" (defScope s_is_whole) f cdv A outer s H E).nox (defBody s_is_whole) t ∧ t { nx := fun _ H' => Q .non H', rt := Q } (start n_is_whole vs) H) : Cal P w K mg base (k + 1) "is_whole" sp := by
  obtain ⟨fd, D⟩ := F.c.def_ 0 (d := d_is_whole) rfl
  have hF : FnOk P w K mg base CX0 (k + 1) (He.ga K "is_whole") fd ["thing"] sp := FunD.ok D sc_is_whole (fun vs H Q E h => len vs H Q E h) fun cdv A outer s H vs Q E hr h => by
    obtain ⟨t, h1, h2⟩ := hb _ cdv A outer s H vs Q E hr h
    exact ⟨t, PSs.nox h1, h2⟩
  have hB : Binds K fd ["thing"] [] := FunD.bindsN D fun _ _ _ _ _ _ us hl => match us, hl with | [_], _ => rfl
  exact ⟨_, fd, _, hF, F.g_is_whole, D.kp, hB⟩
-- is_word: 0 thing, 1 sign
abbrev n_is_word : List Str := ["thing", "sign"]
theorem sc_is_word : FnScope n_is_word ["thing"] (defScope s_is_word) := ⟨rfl, rfl, rfl, by decide +kernel, rfl, by decide +kernel, by decide +kernel⟩
theorem mk_is_word (F : Fc K mg) (len : ∀ vs H Q E, sp vs H Q E → vs.length = 1)
    (hb : ∀ (f : Addr) (cdv : Value) (A : Around) (outer : List Env) (s : Shared) (H : Hp) (vs : List V) (Q : VK) (E : XK), Room k (A.deeper (envOfC "is_word" (defScope s_is_word) s.heap.objs.size f cdv)) → sp vs H Q E →
      ∃ t, PSs (cxOf CX0 P w K mg base n_is_word "is_word" (defScope s_is_word) f cdv A outer s H E).nox (defBody s_is_word) t ∧ t { nx := fun _ H' => Q .non H', rt := Q } (start n_is_word vs) H) : Cal P w K mg base (k + 1) "is_word" sp := by
  obtain ⟨fd, D⟩ := F.c.def_ 1 (d := d_is_word) rfl
  have hF : FnOk P w K mg base CX0 (k + 1) (He.ga K "is_word") fd ["thing"] sp := FunD.ok D sc_is_word (fun vs H Q E h => len vs H Q E h) fun cdv A outer s H vs Q E hr h => by
    obtain ⟨t, h1, h2⟩ := hb _ cdv A outer s H vs Q E hr h
    exact ⟨t, PSs.nox h1, h2⟩
  have hB : Binds K fd ["thing"] [] := FunD.bindsN D fun _ _ _ _ _ _ us hl => match us, hl with | [_], _ => rfl
  exact ⟨_, fd, _, hF, F.g_is_word, D.kp, hB⟩
-- is_signs: 0 thing, 1 sign
abbrev n_is_signs : List Str := ["thing", "sign"]
theorem sc_is_signs : FnScope n_is_signs ["thing"] (defScope s_is_signs) := ⟨rfl, rfl, rfl, by decide +kernel, rfl, by decide +kernel, by decide +kernel⟩
theorem mk_is_signs (F : Fc K mg) (len : ∀ vs H Q E, sp vs H Q E → vs.length = 1)
    (hb : ∀ (f : Addr) (cdv : Value) (A : Around) (outer : List Env) (s : Shared) (H : Hp) (vs : List V) (Q : VK) (E : XK), Room k (A.deeper (envOfC "is_signs" (defScope s_is_signs) s.heap.objs.size f cdv)) → sp vs H Q E →
      ∃ t, PSs (cxOf CX0 P w K mg base n_is_signs "is_signs" (defScope s_is_signs) f cdv A outer s H E).nox (defBody s_is_signs) t ∧ t { nx := fun _ H' => Q .non H', rt := Q } (start n_is_signs vs) H) : Cal P w K mg base (k + 1) "is_signs" sp := by
  obtain ⟨fd, D⟩ := F.c.def_ 2 (d := d_is_signs) rfl
  have hF : FnOk P w K mg base CX0 (k + 1) (He.ga K "is_signs") fd ["thing"] sp := FunD.ok D sc_is_signs (fun vs H Q E h => len vs H Q E h) fun cdv A outer s H vs Q E hr h => by
    obtain ⟨t, h1, h2⟩ := hb _ cdv A outer s H vs Q E hr h
    exact ⟨t, PSs.nox h1, h2⟩
  have hB : Binds K fd ["thing"] [] := FunD.bindsN D fun _ _ _ _ _ _ us hl => match us, hl with | [_], _ => rfl
  exact ⟨_, fd, _, hF, F.g_is_signs, D.kp, hB⟩
-- are_letters: 0 thing
abbrev n_are_letters : List Str := ["thing"]
theorem sc_are_letters : FnScope n_are_letters ["thing"] (defScope s_are_letters) := ⟨rfl, rfl, rfl, by decide +kernel, rfl, by decide +kernel, by decide +kernel⟩
theorem mk_are_letters (F : Fc K mg) (len : ∀ vs H Q E, sp vs H Q E → vs.length = 1)
    (hb : ∀ (f : Addr) (cdv : Value) (A : Around) (outer : List Env) (s : Shared) (H : Hp) (vs : List V) (Q : VK) (E : XK), Room k (A.deeper (envOfC "are_letters" (defScope s_are_letters) s.heap.objs.size f cdv)) → sp vs H Q E →
      ∃ t, PSs (cxOf CX0 P w K mg base n_are_letters "are_letters" (defScope s_are_letters) f cdv A outer s H E).nox (defBody s_are_letters) t ∧ t { nx := fun _ H' => Q .non H', rt := Q } (start n_are_letters vs) H) : Cal P w K mg base (k + 1) "are_letters" sp := by
  obtain ⟨fd, D⟩ := F.c.def_ 3 (d := d_are_letters) rfl
  have hF : FnOk P w K mg base CX0 (k + 1) (He.ga K "are_letters") fd ["thing"] sp := FunD.ok D sc_are_letters (fun vs H Q E h => len vs H Q E h) fun cdv A outer s H vs Q E hr h => by
    obtain ⟨t, h1, h2⟩ := hb _ cdv A outer s H vs Q E hr h
    exact ⟨t, PSs.nox h1, h2⟩
  have hB : Binds K fd ["thing"] [] := FunD.bindsN D fun _ _ _ _ _ _ us hl => match us, hl with | [_], _ => rfl
  exact ⟨_, fd, _, hF, F.g_are_letters, D.kp, hB⟩
-- is_row: 0 thing, 1 registers, 2 item
abbrev n_is_row : List Str := ["thing", "registers", "item"]
theorem sc_is_row : FnScope n_is_row ["thing", "registers"] (defScope s_is_row) := ⟨rfl, rfl, rfl, by decide +kernel, rfl, by decide +kernel, by decide +kernel⟩
theorem mk_is_row (F : Fc K mg) (len : ∀ vs H Q E, sp vs H Q E → vs.length = 2)
    (hb : ∀ (f : Addr) (cdv : Value) (A : Around) (outer : List Env) (s : Shared) (H : Hp) (vs : List V) (Q : VK) (E : XK), Room k (A.deeper (envOfC "is_row" (defScope s_is_row) s.heap.objs.size f cdv)) → sp vs H Q E →
      ∃ t, PSs (cxOf CX0 P w K mg base n_is_row "is_row" (defScope s_is_row) f cdv A outer s H E).nox (defBody s_is_row) t ∧ t { nx := fun _ H' => Q .non H', rt := Q } (start n_is_row vs) H) : Cal P w K mg base (k + 1) "is_row" sp := by
  obtain ⟨fd, D⟩ := F.c.def_ 4 (d := d_is_row) rfl
  have hF : FnOk P w K mg base CX0 (k + 1) (He.ga K "is_row") fd ["thing", "registers"] sp := FunD.ok D sc_is_row (fun vs H Q E h => len vs H Q E h) fun cdv A outer s H vs Q E hr h => by
    obtain ⟨t, h1, h2⟩ := hb _ cdv A outer s H vs Q E hr h
    exact ⟨t, PSs.nox h1, h2⟩
  have hB : Binds K fd ["thing", "registers"] [] := FunD.bindsN D fun _ _ _ _ _ _ us hl => match us, hl with | [_, _], _ => rfl
  exact ⟨_, fd, _, hF, F.g_is_row, D.kp, hB⟩
-- joined: 0 row, 1 found, 2 item
abbrev n_joined : List Str := ["row", "found", "item"]
theorem sc_joined : FnScope n_joined ["row"] (defScope s_joined) := ⟨rfl, rfl, rfl, by decide +kernel, rfl, by decide +kernel, by decide +kernel⟩
theorem mk_joined (F : Fc K mg) (len : ∀ vs H Q E, sp vs H Q E → vs.length = 1)
    (hb : ∀ (f : Addr) (cdv : Value) (A : Around) (outer : List Env) (s : Shared) (H : Hp) (vs : List V) (Q : VK) (E : XK), Room k (A.deeper (envOfC "joined" (defScope s_joined) s.heap.objs.size f cdv)) → sp vs H Q E →
      ∃ t, PSs (cxOf CX0 P w K mg base n_joined "joined" (defScope s_joined) f cdv A outer s H E).nox (defBody s_joined) t ∧ t { nx := fun _ H' => Q .non H', rt := Q } (start n_joined vs) H) : Cal P w K mg base (k + 1) "joined" sp := by
  obtain ⟨fd, D⟩ := F.c.def_ 5 (d := d_joined) rfl
  have hF : FnOk P w K mg base CX0 (k + 1) (He.ga K "joined") fd ["row"] sp := FunD.ok D sc_joined (fun vs H Q E h => len vs H Q E h) fun cdv A outer s H vs Q E hr h => by
    obtain ⟨t, h1, h2⟩ := hb _ cdv A outer s H vs Q E hr h
    exact ⟨t, PSs.nox h1, h2⟩
  have hB : Binds K fd ["row"] [] := FunD.bindsN D fun _ _ _ _ _ _ us hl => match us, hl with | [_], _ => rfl
  exact ⟨_, fd, _, hF, F.g_joined, D.kp, hB⟩
-- registers_in: 0 row, 1 item
abbrev n_registers_in : List Str := ["row", "item"]
theorem sc_registers_in : FnScope n_registers_in ["row"] (defScope s_registers_in) := ⟨rfl, rfl, rfl, by decide +kernel, rfl, by decide +kernel, by decide +kernel⟩
theorem mk_registers_in (F : Fc K mg) (len : ∀ vs H Q E, sp vs H Q E → vs.length = 1)
    (hb : ∀ (f : Addr) (cdv : Value) (A : Around) (outer : List Env) (s : Shared) (H : Hp) (vs : List V) (Q : VK) (E : XK), Room k (A.deeper (envOfC "registers_in" (defScope s_registers_in) s.heap.objs.size f cdv)) → sp vs H Q E →
      ∃ t, PSs (cxOf CX0 P w K mg base n_registers_in "registers_in" (defScope s_registers_in) f cdv A outer s H E).nox (defBody s_registers_in) t ∧ t { nx := fun _ H' => Q .non H', rt := Q } (start n_registers_in vs) H) : Cal P w K mg base (k + 1) "registers_in" sp := by
  obtain ⟨fd, D⟩ := F.c.def_ 6 (d := d_registers_in) rfl
  have hF : FnOk P w K mg base CX0 (k + 1) (He.ga K "registers_in") fd ["row"] sp := FunD.ok D sc_registers_in (fun vs H Q E h => len vs H Q E h) fun cdv A outer s H vs Q E hr h => by
    obtain ⟨t, h1, h2⟩ := hb _ cdv A outer s H vs Q E hr h
    exact ⟨t, PSs.nox h1, h2⟩
  have hB : Binds K fd ["row"] [] := FunD.bindsN D fun _ _ _ _ _ _ us hl => match us, hl with | [_], _ => rfl
  exact ⟨_, fd, _, hF, F.g_registers_in, D.kp, hB⟩
-- text_of: 0 row, 1 held, 2 item
abbrev n_text_of : List Str := ["row", "held", "item"]
theorem sc_text_of : FnScope n_text_of ["row", "held"] (defScope s_text_of) := ⟨rfl, rfl, rfl, by decide +kernel, rfl, by decide +kernel, by decide +kernel⟩
theorem mk_text_of (F : Fc K mg) (len : ∀ vs H Q E, sp vs H Q E → vs.length = 2)
    (hb : ∀ (f : Addr) (cdv : Value) (A : Around) (outer : List Env) (s : Shared) (H : Hp) (vs : List V) (Q : VK) (E : XK), Room k (A.deeper (envOfC "text_of" (defScope s_text_of) s.heap.objs.size f cdv)) → sp vs H Q E →
      ∃ t, PSs (cxOf CX0 P w K mg base n_text_of "text_of" (defScope s_text_of) f cdv A outer s H E).nox (defBody s_text_of) t ∧ t { nx := fun _ H' => Q .non H', rt := Q } (start n_text_of vs) H) : Cal P w K mg base (k + 1) "text_of" sp := by
  obtain ⟨fd, D⟩ := F.c.def_ 7 (d := d_text_of) rfl
  have hF : FnOk P w K mg base CX0 (k + 1) (He.ga K "text_of") fd ["row", "held"] sp := FunD.ok D sc_text_of (fun vs H Q E h => len vs H Q E h) fun cdv A outer s H vs Q E hr h => by
    obtain ⟨t, h1, h2⟩ := hb _ cdv A outer s H vs Q E hr h
    exact ⟨t, PSs.nox h1, h2⟩
  have hB : Binds K fd ["row", "held"] [] := FunD.bindsN D fun _ _ _ _ _ _ us hl => match us, hl with | [_, _], _ => rfl
  exact ⟨_, fd, _, hF, F.g_text_of, D.kp, hB⟩
-- is_step: 0 thing, 1 states, 2 registers, 3 name, 4 row
abbrev n_is_step : List Str := ["thing", "states", "registers", "name", "row"]
theorem sc_is_step : FnScope n_is_step ["thing", "states", "registers"] (defScope s_is_step) := ⟨rfl, rfl, rfl, by decide +kernel, rfl, by decide +kernel, by decide +kernel⟩
theorem mk_is_step (F : Fc K mg) (len : ∀ vs H Q E, sp vs H Q E → vs.length = 3)
    (hb : ∀ (f : Addr) (cdv : Value) (A : Around) (outer : List Env) (s : Shared) (H : Hp) (vs : List V) (Q : VK) (E : XK), Room k (A.deeper (envOfC "is_step" (defScope s_is_step) s.heap.objs.size f cdv)) → sp vs H Q E →
      ∃ t, PSs (cxOf CX0 P w K mg base n_is_step "is_step" (defScope s_is_step) f cdv A outer s H E).nox (defBody s_is_step) t ∧ t { nx := fun _ H' => Q .non H', rt := Q } (start n_is_step vs) H) : Cal P w K mg base (k + 1) "is_step" sp := by
  obtain ⟨fd, D⟩ := F.c.def_ 8 (d := d_is_step) rfl
  have hF : FnOk P w K mg base CX0 (k + 1) (He.ga K "is_step") fd ["thing", "states", "registers"] sp := FunD.ok D sc_is_step (fun vs H Q E h => len vs H Q E h) fun cdv A outer s H vs Q E hr h => by
    obtain ⟨t, h1, h2⟩ := hb _ cdv A outer s H vs Q E hr h
    exact ⟨t, PSs.nox h1, h2⟩
  have hB : Binds K fd ["thing", "states", "registers"] [] := FunD.bindsN D fun _ _ _ _ _ _ us hl => match us, hl with | [_, _, _], _ => rfl
  exact ⟨_, fd, _, hF, F.g_is_step, D.kp, hB⟩
-- whole_rows: 0 rows, 1 registers, 2 name
abbrev n_whole_rows : List Str := ["rows", "registers", "name"]
theorem sc_whole_rows : FnScope n_whole_rows ["rows", "registers"] (defScope s_whole_rows) := ⟨rfl, rfl, rfl, by decide +kernel, rfl, by decide +kernel, by decide +kernel⟩
theorem mk_whole_rows (F : Fc K mg) (len : ∀ vs H Q E, sp vs H Q E → vs.length = 2)
    (hb : ∀ (f : Addr) (cdv : Value) (A : Around) (outer : List Env) (s : Shared) (H : Hp) (vs : List V) (Q : VK) (E : XK), Room k (A.deeper (envOfC "whole_rows" (defScope s_whole_rows) s.heap.objs.size f cdv)) → sp vs H Q E →
      ∃ t, PSs (cxOf CX0 P w K mg base n_whole_rows "whole_rows" (defScope s_whole_rows) f cdv A outer s H E).nox (defBody s_whole_rows) t ∧ t { nx := fun _ H' => Q .non H', rt := Q } (start n_whole_rows vs) H) : Cal P w K mg base (k + 1) "whole_rows" sp := by
  obtain ⟨fd, D⟩ := F.c.def_ 9 (d := d_whole_rows) rfl
  have hF : FnOk P w K mg base CX0 (k + 1) (He.ga K "whole_rows") fd ["rows", "registers"] sp := FunD.ok D sc_whole_rows (fun vs H Q E h => len vs H Q E h) fun cdv A outer s H vs Q E hr h => by
    obtain ⟨t, h1, h2⟩ := hb _ cdv A outer s H vs Q E hr h
    exact ⟨t, PSs.nox h1, h2⟩
  have hB : Binds K fd ["rows", "registers"] [] := FunD.bindsN D fun _ _ _ _ _ _ us hl => match us, hl with | [_, _], _ => rfl
  exact ⟨_, fd, _, hF, F.g_whole_rows, D.kp, hB⟩
-- Program_init: 0 self, 1 letters, 2 states, 3 registers, 4 firsts, 5 steps, 6 ends, 7 due, 8 name, 9 state, 10 letter, 11 one, 12 row
abbrev n_Program_init : List Str := ["self", "letters", "states", "registers", "firsts", "steps", "ends", "due", "name", "state", "letter", "one", "row"]
theorem sc_Program_init : FnScope n_Program_init ["self", "letters", "states", "registers", "firsts", "steps", "ends"] (defScope s_Program_init) := ⟨rfl, rfl, rfl, by decide +kernel, rfl, by decide +kernel, by decide +kernel⟩
theorem mk_Program_init (F : Fc K mg) (len : ∀ vs H Q E, sp vs H Q E → vs.length = 7)
    (hb : ∀ (f : Addr) (cdv : Value) (A : Around) (outer : List Env) (s : Shared) (H : Hp) (vs : List V) (Q : VK) (E : XK), Room k (A.deeper (envOfC "Program.__init__" (defScope s_Program_init) s.heap.objs.size f cdv)) → sp vs H Q E →
      ∃ t, PSs (cxOf CX0 P w K mg base n_Program_init "Program.__init__" (defScope s_Program_init) f cdv A outer s H E).nox (defBody s_Program_init) t ∧ t { nx := fun _ H' => Q .non H', rt := Q } (start n_Program_init vs) H) : Mak P w K mg base (k + 1) "Program" (He.ga K "Program") sp := by
  obtain ⟨fd, D⟩ := F.c.def_ 10 (d := d_Program_init) rfl
  have hF : FnOk P w K mg base CX0 (k + 1) (He.ma K (He.ga K "Program") "__init__") fd ["self", "letters", "states", "registers", "firsts", "steps", "ends"] sp := FunD.ok D sc_Program_init (fun vs H Q E h => len vs H Q E h) fun cdv A outer s H vs Q E hr h => by
    obtain ⟨t, h1, h2⟩ := hb _ cdv A outer s H vs Q E hr h
    exact ⟨t, PSs.nox h1, h2⟩
  have hB : Binds K fd ["self", "letters", "states", "registers", "firsts", "steps", "ends"] [] := FunD.bindsN D fun _ _ _ _ _ _ us hl => match us, hl with | [_, _, _, _, _, _, _], _ => rfl
  exact ⟨_, fd, _, F.mkr_Program, hF, F.g_Program, hB⟩
-- Program_check: 0 self, 1 text, 2 place, 3 letter
abbrev n_Program_check : List Str := ["self", "text", "place", "letter"]
theorem sc_Program_check : FnScope n_Program_check ["self", "text"] (defScope s_Program_check) := ⟨rfl, rfl, rfl, by decide +kernel, rfl, by decide +kernel, by decide +kernel⟩
theorem mk_Program_check (F : Fc K mg) (len : ∀ vs H Q E, sp vs H Q E → vs.length = 2)
    (hb : ∀ (f : Addr) (cdv : Value) (A : Around) (outer : List Env) (s : Shared) (H : Hp) (vs : List V) (Q : VK) (E : XK), Room k (A.deeper (envOfC "Program.check" (defScope s_Program_check) s.heap.objs.size f cdv)) → sp vs H Q E →
      ∃ t, PSs (cxOf CX0 P w K mg base n_Program_check "Program.check" (defScope s_Program_check) f cdv A outer s H E).nox (defBody s_Program_check) t ∧ t { nx := fun _ H' => Q .non H', rt := Q } (start n_Program_check vs) H) : Met P w K mg base (k + 1) (He.ga K "Program") "check" sp := by
  obtain ⟨fd, D⟩ := F.c.def_ 11 (d := d_Program_check) rfl
  have hF : FnOk P w K mg base CX0 (k + 1) (He.ma K (He.ga K "Program") "check") fd ["self", "text"] sp := FunD.ok D sc_Program_check (fun vs H Q E h => len vs H Q E h) fun cdv A outer s H vs Q E hr h => by
    obtain ⟨t, h1, h2⟩ := hb _ cdv A outer s H vs Q E hr h
    exact ⟨t, PSs.nox h1, h2⟩
  have hB : Binds K fd ["self", "text"] [] := FunD.bindsN D fun _ _ _ _ _ _ us hl => match us, hl with | [_, _], _ => rfl
  exact ⟨_, fd, _, F.cls_Program, F.m_Program_check, hF, hB⟩
-- Program_after: 0 self, 1 text, 2 state, 3 held, 4 letter, 5 rows, 6 name, 7 row
abbrev n_Program_after : List Str := ["self", "text", "state", "held", "letter", "rows", "name", "row"]
theorem sc_Program_after : FnScope n_Program_after ["self", "text"] (defScope s_Program_after) := ⟨rfl, rfl, rfl, by decide +kernel, rfl, by decide +kernel, by decide +kernel⟩
theorem mk_Program_after (F : Fc K mg) (len : ∀ vs H Q E, sp vs H Q E → vs.length = 2)
    (hb : ∀ (f : Addr) (cdv : Value) (A : Around) (outer : List Env) (s : Shared) (H : Hp) (vs : List V) (Q : VK) (E : XK), Room k (A.deeper (envOfC "Program.after" (defScope s_Program_after) s.heap.objs.size f cdv)) → sp vs H Q E →
      ∃ t, PSs (cxOf CX0 P w K mg base n_Program_after "Program.after" (defScope s_Program_after) f cdv A outer s H E).nox (defBody s_Program_after) t ∧ t { nx := fun _ H' => Q .non H', rt := Q } (start n_Program_after vs) H) : Met P w K mg base (k + 1) (He.ga K "Program") "after" sp := by
  obtain ⟨fd, D⟩ := F.c.def_ 12 (d := d_Program_after) rfl
  have hF : FnOk P w K mg base CX0 (k + 1) (He.ma K (He.ga K "Program") "after") fd ["self", "text"] sp := FunD.ok D sc_Program_after (fun vs H Q E h => len vs H Q E h) fun cdv A outer s H vs Q E hr h => by
    obtain ⟨t, h1, h2⟩ := hb _ cdv A outer s H vs Q E hr h
    exact ⟨t, PSs.nox h1, h2⟩
  have hB : Binds K fd ["self", "text"] [] := FunD.bindsN D fun _ _ _ _ _ _ us hl => match us, hl with | [_, _], _ => rfl
  exact ⟨_, fd, _, F.cls_Program, F.m_Program_after, hF, hB⟩
-- Program_reached: 0 self, 1 found, 2 waiting, 3 here, 4 letter, 5 late
abbrev n_Program_reached : List Str := ["self", "found", "waiting", "here", "letter", "late"]
theorem sc_Program_reached : FnScope n_Program_reached ["self"] (defScope s_Program_reached) := ⟨rfl, rfl, rfl, by decide +kernel, rfl, by decide +kernel, by decide +kernel⟩
theorem mk_Program_reached (F : Fc K mg) (len : ∀ vs H Q E, sp vs H Q E → vs.length = 1)
    (hb : ∀ (f : Addr) (cdv : Value) (A : Around) (outer : List Env) (s : Shared) (H : Hp) (vs : List V) (Q : VK) (E : XK), Room k (A.deeper (envOfC "Program.reached" (defScope s_Program_reached) s.heap.objs.size f cdv)) → sp vs H Q E →
      ∃ t, PSs (cxOf CX0 P w K mg base n_Program_reached "Program.reached" (defScope s_Program_reached) f cdv A outer s H E).nox (defBody s_Program_reached) t ∧ t { nx := fun _ H' => Q .non H', rt := Q } (start n_Program_reached vs) H) : Met P w K mg base (k + 1) (He.ga K "Program") "reached" sp := by
  obtain ⟨fd, D⟩ := F.c.def_ 13 (d := d_Program_reached) rfl
  have hF : FnOk P w K mg base CX0 (k + 1) (He.ma K (He.ga K "Program") "reached") fd ["self"] sp := FunD.ok D sc_Program_reached (fun vs H Q E h => len vs H Q E h) fun cdv A outer s H vs Q E hr h => by
    obtain ⟨t, h1, h2⟩ := hb _ cdv A outer s H vs Q E hr h
    exact ⟨t, PSs.nox h1, h2⟩
  have hB : Binds K fd ["self"] [] := FunD.bindsN D fun _ _ _ _ _ _ us hl => match us, hl with | [_], _ => rfl
  exact ⟨_, fd, _, F.cls_Program, F.m_Program_reached, hF, hB⟩
-- check_program: 0 thing
abbrev n_check_program : List Str := ["thing"]
theorem sc_check_program : FnScope n_check_program ["thing"] (defScope s_check_program) := ⟨rfl, rfl, rfl, by decide +kernel, rfl, by decide +kernel, by decide +kernel⟩
theorem mk_check_program (F : Fc K mg) (len : ∀ vs H Q E, sp vs H Q E → vs.length = 1)
    (hb : ∀ (f : Addr) (cdv : Value) (A : Around) (outer : List Env) (s : Shared) (H : Hp) (vs : List V) (Q : VK) (E : XK), Room k (A.deeper (envOfC "check_program" (defScope s_check_program) s.heap.objs.size f cdv)) → sp vs H Q E →
      ∃ t, PSs (cxOf CX0 P w K mg base n_check_program "check_program" (defScope s_check_program) f cdv A outer s H E).nox (defBody s_check_program) t ∧ t { nx := fun _ H' => Q .non H', rt := Q } (start n_check_program vs) H) : Cal P w K mg base (k + 1) "check_program" sp := by
  obtain ⟨fd, D⟩ := F.c.def_ 14 (d := d_check_program) rfl
  have hF : FnOk P w K mg base CX0 (k + 1) (He.ga K "check_program") fd ["thing"] sp := FunD.ok D sc_check_program (fun vs H Q E h => len vs H Q E h) fun cdv A outer s H vs Q E hr h => by
    obtain ⟨t, h1, h2⟩ := hb _ cdv A outer s H vs Q E hr h
    exact ⟨t, PSs.nox h1, h2⟩
  have hB : Binds K fd ["thing"] [] := FunD.bindsN D fun _ _ _ _ _ _ us hl => match us, hl with | [_], _ => rfl
  exact ⟨_, fd, _, hF, F.g_check_program, D.kp, hB⟩
-- has_twice: 0 names
abbrev n_has_twice : List Str := ["names"]
theorem sc_has_twice : FnScope n_has_twice ["names"] (defScope s_has_twice) := ⟨rfl, rfl, rfl, by decide +kernel, rfl, by decide +kernel, by decide +kernel⟩
theorem mk_has_twice (F : Fc K mg) (len : ∀ vs H Q E, sp vs H Q E → vs.length = 1)
    (hb : ∀ (f : Addr) (cdv : Value) (A : Around) (outer : List Env) (s : Shared) (H : Hp) (vs : List V) (Q : VK) (E : XK), Room k (A.deeper (envOfC "has_twice" (defScope s_has_twice) s.heap.objs.size f cdv)) → sp vs H Q E →
      ∃ t, PSs (cxOf CX0 P w K mg base n_has_twice "has_twice" (defScope s_has_twice) f cdv A outer s H E).nox (defBody s_has_twice) t ∧ t { nx := fun _ H' => Q .non H', rt := Q } (start n_has_twice vs) H) : Cal P w K mg base (k + 1) "has_twice" sp := by
  obtain ⟨fd, D⟩ := F.c.def_ 15 (d := d_has_twice) rfl
  have hF : FnOk P w K mg base CX0 (k + 1) (He.ga K "has_twice") fd ["names"] sp := FunD.ok D sc_has_twice (fun vs H Q E h => len vs H Q E h) fun cdv A outer s H vs Q E hr h => by
    obtain ⟨t, h1, h2⟩ := hb _ cdv A outer s H vs Q E hr h
    exact ⟨t, PSs.nox h1, h2⟩
  have hB : Binds K fd ["names"] [] := FunD.bindsN D fun _ _ _ _ _ _ us hl => match us, hl with | [_], _ => rfl
  exact ⟨_, fd, _, hF, F.g_has_twice, D.kp, hB⟩
-- is_plain: 0 program, 1 state, 2 rows, 3 row, 4 name
abbrev n_is_plain : List Str := ["program", "state", "rows", "row", "name"]
theorem sc_is_plain : FnScope n_is_plain ["program"] (defScope s_is_plain) := ⟨rfl, rfl, rfl, by decide +kernel, rfl, by decide +kernel, by decide +kernel⟩
theorem mk_is_plain (F : Fc K mg) (len : ∀ vs H Q E, sp vs H Q E → vs.length = 1)
    (hb : ∀ (f : Addr) (cdv : Value) (A : Around) (outer : List Env) (s : Shared) (H : Hp) (vs : List V) (Q : VK) (E : XK), Room k (A.deeper (envOfC "is_plain" (defScope s_is_plain) s.heap.objs.size f cdv)) → sp vs H Q E →
      ∃ t, PSs (cxOf CX0 P w K mg base n_is_plain "is_plain" (defScope s_is_plain) f cdv A outer s H E).nox (defBody s_is_plain) t ∧ t { nx := fun _ H' => Q .non H', rt := Q } (start n_is_plain vs) H) : Cal P w K mg base (k + 1) "is_plain" sp := by
  obtain ⟨fd, D⟩ := F.c.def_ 16 (d := d_is_plain) rfl
  have hF : FnOk P w K mg base CX0 (k + 1) (He.ga K "is_plain") fd ["program"] sp := FunD.ok D sc_is_plain (fun vs H Q E h => len vs H Q E h) fun cdv A outer s H vs Q E hr h => by
    obtain ⟨t, h1, h2⟩ := hb _ cdv A outer s H vs Q E hr h
    exact ⟨t, PSs.nox h1, h2⟩
  have hB : Binds K fd ["program"] [] := FunD.bindsN D fun _ _ _ _ _ _ us hl => match us, hl with | [_], _ => rfl
  exact ⟨_, fd, _, hF, F.g_is_plain, D.kp, hB⟩
-- backwards: 0 program, 1 state, 2 found, 3 letter
abbrev n_backwards : List Str := ["program", "state", "found", "letter"]
theorem sc_backwards : FnScope n_backwards ["program"] (defScope s_backwards) := ⟨rfl, rfl, rfl, by decide +kernel, rfl, by decide +kernel, by decide +kernel⟩
theorem mk_backwards (F : Fc K mg) (len : ∀ vs H Q E, sp vs H Q E → vs.length = 1)
    (hb : ∀ (f : Addr) (cdv : Value) (A : Around) (outer : List Env) (s : Shared) (H : Hp) (vs : List V) (Q : VK) (E : XK), Room k (A.deeper (envOfC "backwards" (defScope s_backwards) s.heap.objs.size f cdv)) → sp vs H Q E →
      ∃ t, PSs (cxOf CX0 P w K mg base n_backwards "backwards" (defScope s_backwards) f cdv A outer s H E).nox (defBody s_backwards) t ∧ t { nx := fun _ H' => Q .non H', rt := Q } (start n_backwards vs) H) : Cal P w K mg base (k + 1) "backwards" sp := by
  obtain ⟨fd, D⟩ := F.c.def_ 17 (d := d_backwards) rfl
  have hF : FnOk P w K mg base CX0 (k + 1) (He.ga K "backwards") fd ["program"] sp := FunD.ok D sc_backwards (fun vs H Q E h => len vs H Q E h) fun cdv A outer s H vs Q E hr h => by
    obtain ⟨t, h1, h2⟩ := hb _ cdv A outer s H vs Q E hr h
    exact ⟨t, PSs.nox h1, h2⟩
  have hB : Binds K fd ["program"] [] := FunD.bindsN D fun _ _ _ _ _ _ us hl => match us, hl with | [_], _ => rfl
  exact ⟨_, fd, _, hF, F.g_backwards, D.kp, hB⟩
-- uses_of: 0 rows, 1 live, 2 one, 3 name
abbrev n_uses_of : List Str := ["rows", "live", "one", "name"]
theorem sc_uses_of : FnScope n_uses_of ["rows", "live"] (defScope s_uses_of) := ⟨rfl, rfl, rfl, by decide +kernel, rfl, by decide +kernel, by decide +kernel⟩
theorem mk_uses_of (F : Fc K mg) (len : ∀ vs H Q E, sp vs H Q E → vs.length = 2)
    (hb : ∀ (f : Addr) (cdv : Value) (A : Around) (outer : List Env) (s : Shared) (H : Hp) (vs : List V) (Q : VK) (E : XK), Room k (A.deeper (envOfC "uses_of" (defScope s_uses_of) s.heap.objs.size f cdv)) → sp vs H Q E →
      ∃ t, PSs (cxOf CX0 P w K mg base n_uses_of "uses_of" (defScope s_uses_of) f cdv A outer s H E).nox (defBody s_uses_of) t ∧ t { nx := fun _ H' => Q .non H', rt := Q } (start n_uses_of vs) H) : Cal P w K mg base (k + 1) "uses_of" sp := by
  obtain ⟨fd, D⟩ := F.c.def_ 18 (d := d_uses_of) rfl
  have hF : FnOk P w K mg base CX0 (k + 1) (He.ga K "uses_of") fd ["rows", "live"] sp := FunD.ok D sc_uses_of (fun vs H Q E h => len vs H Q E h) fun cdv A outer s H vs Q E hr h => by
    obtain ⟨t, h1, h2⟩ := hb _ cdv A outer s H vs Q E hr h
    exact ⟨t, PSs.nox h1, h2⟩
  have hB : Binds K fd ["rows", "live"] [] := FunD.bindsN D fun _ _ _ _ _ _ us hl => match us, hl with | [_, _], _ => rfl
  exact ⟨_, fd, _, hF, F.g_uses_of, D.kp, hB⟩
-- Thrifty_init: 0 self, 1 lives, 2 state, 3 names
abbrev n_Thrifty_init : List Str := ["self", "lives", "state", "names"]
theorem sc_Thrifty_init : FnScope n_Thrifty_init ["self", "lives"] (defScope s_Thrifty_init) := ⟨rfl, rfl, rfl, by decide +kernel, rfl, by decide +kernel, by decide +kernel⟩
theorem mk_Thrifty_init (F : Fc K mg) (len : ∀ vs H Q E, sp vs H Q E → vs.length = 2)
    (hb : ∀ (f : Addr) (cdv : Value) (A : Around) (outer : List Env) (s : Shared) (H : Hp) (vs : List V) (Q : VK) (E : XK), Room k (A.deeper (envOfC "Thrifty.__init__" (defScope s_Thrifty_init) s.heap.objs.size f cdv)) → sp vs H Q E →
      ∃ t, PSs (cxOf CX0 P w K mg base n_Thrifty_init "Thrifty.__init__" (defScope s_Thrifty_init) f cdv A outer s H E).nox (defBody s_Thrifty_init) t ∧ t { nx := fun _ H' => Q .non H', rt := Q } (start n_Thrifty_init vs) H) : Mak P w K mg base (k + 1) "Thrifty" (He.ga K "Thrifty") sp := by
  obtain ⟨fd, D⟩ := F.c.def_ 19 (d := d_Thrifty_init) rfl
  have hF : FnOk P w K mg base CX0 (k + 1) (He.ma K (He.ga K "Thrifty") "__init__") fd ["self", "lives"] sp := FunD.ok D sc_Thrifty_init (fun vs H Q E h => len vs H Q E h) fun cdv A outer s H vs Q E hr h => by
    obtain ⟨t, h1, h2⟩ := hb _ cdv A outer s H vs Q E hr h
    exact ⟨t, PSs.nox h1, h2⟩
  have hB : Binds K fd ["self", "lives"] [] := FunD.bindsN D fun _ _ _ _ _ _ us hl => match us, hl with | [_, _], _ => rfl
  exact ⟨_, fd, _, F.mkr_Thrifty, hF, F.g_Thrifty, hB⟩
-- Thrifty_eq: 0 self, 1 other
abbrev n_Thrifty_eq : List Str := ["self", "other"]
theorem sc_Thrifty_eq : FnScope n_Thrifty_eq ["self", "other"] (defScope s_Thrifty_eq) := ⟨rfl, rfl, rfl, by decide +kernel, rfl, by decide +kernel, by decide +kernel⟩
theorem mk_Thrifty_eq (F : Fc K mg) (len : ∀ vs H Q E, sp vs H Q E → vs.length = 2)
    (hb : ∀ (f : Addr) (cdv : Value) (A : Around) (outer : List Env) (s : Shared) (H : Hp) (vs : List V) (Q : VK) (E : XK), Room k (A.deeper (envOfC "Thrifty.__eq__" (defScope s_Thrifty_eq) s.heap.objs.size f cdv)) → sp vs H Q E →
      ∃ t, PSs (cxOf CX0 P w K mg base n_Thrifty_eq "Thrifty.__eq__" (defScope s_Thrifty_eq) f cdv A outer s H E).nox (defBody s_Thrifty_eq) t ∧ t { nx := fun _ H' => Q .non H', rt := Q } (start n_Thrifty_eq vs) H) : Met P w K mg base (k + 1) (He.ga K "Thrifty") "__eq__" sp := by
  obtain ⟨fd, D⟩ := F.c.def_ 20 (d := d_Thrifty_eq) rfl
  have hF : FnOk P w K mg base CX0 (k + 1) (He.ma K (He.ga K "Thrifty") "__eq__") fd ["self", "other"] sp := FunD.ok D sc_Thrifty_eq (fun vs H Q E h => len vs H Q E h) fun cdv A outer s H vs Q E hr h => by
    obtain ⟨t, h1, h2⟩ := hb _ cdv A outer s H vs Q E hr h
    exact ⟨t, PSs.nox h1, h2⟩
  have hB : Binds K fd ["self", "other"] [] := FunD.bindsN D fun _ _ _ _ _ _ us hl => match us, hl with | [_, _], _ => rfl
  exact ⟨_, fd, _, F.cls_Thrifty, F.m_Thrifty_eq, hF, hB⟩
-- Thrifty_bool: 0 self
abbrev n_Thrifty_bool : List Str := ["self"]
theorem sc_Thrifty_bool : FnScope n_Thrifty_bool ["self"] (defScope s_Thrifty_bool) := ⟨rfl, rfl, rfl, by decide +kernel, rfl, by decide +kernel, by decide +kernel⟩
theorem mk_Thrifty_bool (F : Fc K mg) (len : ∀ vs H Q E, sp vs H Q E → vs.length = 1)
    (hb : ∀ (f : Addr) (cdv : Value) (A : Around) (outer : List Env) (s : Shared) (H : Hp) (vs : List V) (Q : VK) (E : XK), Room k (A.deeper (envOfC "Thrifty.__bool__" (defScope s_Thrifty_bool) s.heap.objs.size f cdv)) → sp vs H Q E →
      ∃ t, PSs (cxOf CX0 P w K mg base n_Thrifty_bool "Thrifty.__bool__" (defScope s_Thrifty_bool) f cdv A outer s H E).nox (defBody s_Thrifty_bool) t ∧ t { nx := fun _ H' => Q .non H', rt := Q } (start n_Thrifty_bool vs) H) : Met P w K mg base (k + 1) (He.ga K "Thrifty") "__bool__" sp := by
  obtain ⟨fd, D⟩ := F.c.def_ 21 (d := d_Thrifty_bool) rfl
  have hF : FnOk P w K mg base CX0 (k + 1) (He.ma K (He.ga K "Thrifty") "__bool__") fd ["self"] sp := FunD.ok D sc_Thrifty_bool (fun vs H Q E h => len vs H Q E h) fun cdv A outer s H vs Q E hr h => by
    obtain ⟨t, h1, h2⟩ := hb _ cdv A outer s H vs Q E hr h
    exact ⟨t, PSs.nox h1, h2⟩
  have hB : Binds K fd ["self"] [] := FunD.bindsN D fun _ _ _ _ _ _ us hl => match us, hl with | [_], _ => rfl
  exact ⟨_, fd, _, F.cls_Thrifty, F.m_Thrifty_bool, hF, hB⟩
-- Thrifty_shows: 0 self, 1 program, 2 known, 3 back, 4 state, 5 names, 6 before, 7 letter, 8 rows, 9 one, 10 name
abbrev n_Thrifty_shows : List Str := ["self", "program", "known", "back", "state", "names", "before", "letter", "rows", "one", "name"]
theorem sc_Thrifty_shows : FnScope n_Thrifty_shows ["self", "program"] (defScope s_Thrifty_shows) := ⟨rfl, rfl, rfl, by decide +kernel, rfl, by decide +kernel, by decide +kernel⟩
theorem mk_Thrifty_shows (F : Fc K mg) (len : ∀ vs H Q E, sp vs H Q E → vs.length = 2)
    (hb : ∀ (f : Addr) (cdv : Value) (A : Around) (outer : List Env) (s : Shared) (H : Hp) (vs : List V) (Q : VK) (E : XK), Room k (A.deeper (envOfC "Thrifty.shows" (defScope s_Thrifty_shows) s.heap.objs.size f cdv)) → sp vs H Q E →
      ∃ t, PSs (cxOf CX0 P w K mg base n_Thrifty_shows "Thrifty.shows" (defScope s_Thrifty_shows) f cdv A outer s H E).nox (defBody s_Thrifty_shows) t ∧ t { nx := fun _ H' => Q .non H', rt := Q } (start n_Thrifty_shows vs) H) : Met P w K mg base (k + 1) (He.ga K "Thrifty") "shows" sp := by
  obtain ⟨fd, D⟩ := F.c.def_ 22 (d := d_Thrifty_shows) rfl
  have hF : FnOk P w K mg base CX0 (k + 1) (He.ma K (He.ga K "Thrifty") "shows") fd ["self", "program"] sp := FunD.ok D sc_Thrifty_shows (fun vs H Q E h => len vs H Q E h) fun cdv A outer s H vs Q E hr h => by
    obtain ⟨t, h1, h2⟩ := hb _ cdv A outer s H vs Q E hr h
    exact ⟨t, PSs.nox h1, h2⟩
  have hB : Binds K fd ["self", "program"] [] := FunD.bindsN D fun _ _ _ _ _ _ us hl => match us, hl with | [_, _], _ => rfl
  exact ⟨_, fd, _, F.cls_Thrifty, F.m_Thrifty_shows, hF, hB⟩
-- is_listed: 0 known, 1 state, 2 names
abbrev n_is_listed : List Str := ["known", "state", "names"]
theorem sc_is_listed : FnScope n_is_listed ["known", "state", "names"] (defScope s_is_listed) := ⟨rfl, rfl, rfl, by decide +kernel, rfl, by decide +kernel, by decide +kernel⟩
theorem mk_is_listed (F : Fc K mg) (len : ∀ vs H Q E, sp vs H Q E → vs.length = 3)
    (hb : ∀ (f : Addr) (cdv : Value) (A : Around) (outer : List Env) (s : Shared) (H : Hp) (vs : List V) (Q : VK) (E : XK), Room k (A.deeper (envOfC "is_listed" (defScope s_is_listed) s.heap.objs.size f cdv)) → sp vs H Q E →
      ∃ t, PSs (cxOf CX0 P w K mg base n_is_listed "is_listed" (defScope s_is_listed) f cdv A outer s H E).nox (defBody s_is_listed) t ∧ t { nx := fun _ H' => Q .non H', rt := Q } (start n_is_listed vs) H) : Cal P w K mg base (k + 1) "is_listed" sp := by
  obtain ⟨fd, D⟩ := F.c.def_ 23 (d := d_is_listed) rfl
  have hF : FnOk P w K mg base CX0 (k + 1) (He.ga K "is_listed") fd ["known", "state", "names"] sp := FunD.ok D sc_is_listed (fun vs H Q E h => len vs H Q E h) fun cdv A outer s H vs Q E hr h => by
    obtain ⟨t, h1, h2⟩ := hb _ cdv A outer s H vs Q E hr h
    exact ⟨t, PSs.nox h1, h2⟩
  have hB : Binds K fd ["known", "state", "names"] [] := FunD.bindsN D fun _ _ _ _ _ _ us hl => match us, hl with | [_, _, _], _ => rfl
  exact ⟨_, fd, _, hF, F.g_is_listed, D.kp, hB⟩
-- Twice_init: 0 self, 1 text, 2 rest, 3 name
abbrev n_Twice_init : List Str := ["self", "text", "rest", "name"]
theorem sc_Twice_init : FnScope n_Twice_init ["self", "text", "rest", "name"] (defScope s_Twice_init) := ⟨rfl, rfl, rfl, by decide +kernel, rfl, by decide +kernel, by decide +kernel⟩
theorem mk_Twice_init (F : Fc K mg) (len : ∀ vs H Q E, sp vs H Q E → vs.length = 4)
    (hb : ∀ (f : Addr) (cdv : Value) (A : Around) (outer : List Env) (s : Shared) (H : Hp) (vs : List V) (Q : VK) (E : XK), Room k (A.deeper (envOfC "Twice.__init__" (defScope s_Twice_init) s.heap.objs.size f cdv)) → sp vs H Q E →
      ∃ t, PSs (cxOf CX0 P w K mg base n_Twice_init "Twice.__init__" (defScope s_Twice_init) f cdv A outer s H E).nox (defBody s_Twice_init) t ∧ t { nx := fun _ H' => Q .non H', rt := Q } (start n_Twice_init vs) H) : Mak P w K mg base (k + 1) "Twice" (He.ga K "Twice") sp := by
  obtain ⟨fd, D⟩ := F.c.def_ 24 (d := d_Twice_init) rfl
  have hF : FnOk P w K mg base CX0 (k + 1) (He.ma K (He.ga K "Twice") "__init__") fd ["self", "text", "rest", "name"] sp := FunD.ok D sc_Twice_init (fun vs H Q E h => len vs H Q E h) fun cdv A outer s H vs Q E hr h => by
    obtain ⟨t, h1, h2⟩ := hb _ cdv A outer s H vs Q E hr h
    exact ⟨t, PSs.nox h1, h2⟩
  have hB : Binds K fd ["self", "text", "rest", "name"] [] := FunD.bindsN D fun _ _ _ _ _ _ us hl => match us, hl with | [_, _, _, _], _ => rfl
  exact ⟨_, fd, _, F.mkr_Twice, hF, F.g_Twice, hB⟩
-- Twice_eq: 0 self, 1 other
abbrev n_Twice_eq : List Str := ["self", "other"]
theorem sc_Twice_eq : FnScope n_Twice_eq ["self", "other"] (defScope s_Twice_eq) := ⟨rfl, rfl, rfl, by decide +kernel, rfl, by decide +kernel, by decide +kernel⟩
theorem mk_Twice_eq (F : Fc K mg) (len : ∀ vs H Q E, sp vs H Q E → vs.length = 2)
    (hb : ∀ (f : Addr) (cdv : Value) (A : Around) (outer : List Env) (s : Shared) (H : Hp) (vs : List V) (Q : VK) (E : XK), Room k (A.deeper (envOfC "Twice.__eq__" (defScope s_Twice_eq) s.heap.objs.size f cdv)) → sp vs H Q E →
      ∃ t, PSs (cxOf CX0 P w K mg base n_Twice_eq "Twice.__eq__" (defScope s_Twice_eq) f cdv A outer s H E).nox (defBody s_Twice_eq) t ∧ t { nx := fun _ H' => Q .non H', rt := Q } (start n_Twice_eq vs) H) : Met P w K mg base (k + 1) (He.ga K "Twice") "__eq__" sp := by
  obtain ⟨fd, D⟩ := F.c.def_ 25 (d := d_Twice_eq) rfl
  have hF : FnOk P w K mg base CX0 (k + 1) (He.ma K (He.ga K "Twice") "__eq__") fd ["self", "other"] sp := FunD.ok D sc_Twice_eq (fun vs H Q E h => len vs H Q E h) fun cdv A outer s H vs Q E hr h => by
    obtain ⟨t, h1, h2⟩ := hb _ cdv A outer s H vs Q E hr h
    exact ⟨t, PSs.nox h1, h2⟩
  have hB : Binds K fd ["self", "other"] [] := FunD.bindsN D fun _ _ _ _ _ _ us hl => match us, hl with | [_, _], _ => rfl
  exact ⟨_, fd, _, F.cls_Twice, F.m_Twice_eq, hF, hB⟩
-- Twice_bool: 0 self
abbrev n_Twice_bool : List Str := ["self"]
theorem sc_Twice_bool : FnScope n_Twice_bool ["self"] (defScope s_Twice_bool) := ⟨rfl, rfl, rfl, by decide +kernel, rfl, by decide +kernel, by decide +kernel⟩
theorem mk_Twice_bool (F : Fc K mg) (len : ∀ vs H Q E, sp vs H Q E → vs.length = 1)
    (hb : ∀ (f : Addr) (cdv : Value) (A : Around) (outer : List Env) (s : Shared) (H : Hp) (vs : List V) (Q : VK) (E : XK), Room k (A.deeper (envOfC "Twice.__bool__" (defScope s_Twice_bool) s.heap.objs.size f cdv)) → sp vs H Q E →
      ∃ t, PSs (cxOf CX0 P w K mg base n_Twice_bool "Twice.__bool__" (defScope s_Twice_bool) f cdv A outer s H E).nox (defBody s_Twice_bool) t ∧ t { nx := fun _ H' => Q .non H', rt := Q } (start n_Twice_bool vs) H) : Met P w K mg base (k + 1) (He.ga K "Twice") "__bool__" sp := by
  obtain ⟨fd, D⟩ := F.c.def_ 26 (d := d_Twice_bool) rfl
  have hF : FnOk P w K mg base CX0 (k + 1) (He.ma K (He.ga K "Twice") "__bool__") fd ["self"] sp := FunD.ok D sc_Twice_bool (fun vs H Q E h => len vs H Q E h) fun cdv A outer s H vs Q E hr h => by
    obtain ⟨t, h1, h2⟩ := hb _ cdv A outer s H vs Q E hr h
    exact ⟨t, PSs.nox h1, h2⟩
  have hB : Binds K fd ["self"] [] := FunD.bindsN D fun _ _ _ _ _ _ us hl => match us, hl with | [_], _ => rfl
  exact ⟨_, fd, _, F.cls_Twice, F.m_Twice_bool, hF, hB⟩
-- Twice_shows: 0 self, 1 program, 2 letter, 3 state, 4 steps, 5 rows
abbrev n_Twice_shows : List Str := ["self", "program", "letter", "state", "steps", "rows"]
theorem sc_Twice_shows : FnScope n_Twice_shows ["self", "program"] (defScope s_Twice_shows) := ⟨rfl, rfl, rfl, by decide +kernel, rfl, by decide +kernel, by decide +kernel⟩
theorem mk_Twice_shows (F : Fc K mg) (len : ∀ vs H Q E, sp vs H Q E → vs.length = 2)
    (hb : ∀ (f : Addr) (cdv : Value) (A : Around) (outer : List Env) (s : Shared) (H : Hp) (vs : List V) (Q : VK) (E : XK), Room k (A.deeper (envOfC "Twice.shows" (defScope s_Twice_shows) s.heap.objs.size f cdv)) → sp vs H Q E →
      ∃ t, PSs (cxOf CX0 P w K mg base n_Twice_shows "Twice.shows" (defScope s_Twice_shows) f cdv A outer s H E).nox (defBody s_Twice_shows) t ∧ t { nx := fun _ H' => Q .non H', rt := Q } (start n_Twice_shows vs) H) : Met P w K mg base (k + 1) (He.ga K "Twice") "shows" sp := by
  obtain ⟨fd, D⟩ := F.c.def_ 27 (d := d_Twice_shows) rfl
  have hF : FnOk P w K mg base CX0 (k + 1) (He.ma K (He.ga K "Twice") "shows") fd ["self", "program"] sp := FunD.ok D sc_Twice_shows (fun vs H Q E h => len vs H Q E h) fun cdv A outer s H vs Q E hr h => by
    obtain ⟨t, h1, h2⟩ := hb _ cdv A outer s H vs Q E hr h
    exact ⟨t, PSs.nox h1, h2⟩
  have hB : Binds K fd ["self", "program"] [] := FunD.bindsN D fun _ _ _ _ _ _ us hl => match us, hl with | [_, _], _ => rfl
  exact ⟨_, fd, _, F.cls_Twice, F.m_Twice_shows, hF, hB⟩
-- count_of: 0 steps, 1 row, 2 name, 3 uses, 4 rows
abbrev n_count_of : List Str := ["steps", "row", "name", "uses", "rows"]
theorem sc_count_of : FnScope n_count_of ["steps", "row", "name"] (defScope s_count_of) := ⟨rfl, rfl, rfl, by decide +kernel, rfl, by decide +kernel, by decide +kernel⟩
theorem mk_count_of (F : Fc K mg) (len : ∀ vs H Q E, sp vs H Q E → vs.length = 3)
    (hb : ∀ (f : Addr) (cdv : Value) (A : Around) (outer : List Env) (s : Shared) (H : Hp) (vs : List V) (Q : VK) (E : XK), Room k (A.deeper (envOfC "count_of" (defScope s_count_of) s.heap.objs.size f cdv)) → sp vs H Q E →
      ∃ t, PSs (cxOf CX0 P w K mg base n_count_of "count_of" (defScope s_count_of) f cdv A outer s H E).nox (defBody s_count_of) t ∧ t { nx := fun _ H' => Q .non H', rt := Q } (start n_count_of vs) H) : Cal P w K mg base (k + 1) "count_of" sp := by
  obtain ⟨fd, D⟩ := F.c.def_ 28 (d := d_count_of) rfl
  have hF : FnOk P w K mg base CX0 (k + 1) (He.ga K "count_of") fd ["steps", "row", "name"] sp := FunD.ok D sc_count_of (fun vs H Q E h => len vs H Q E h) fun cdv A outer s H vs Q E hr h => by
    obtain ⟨t, h1, h2⟩ := hb _ cdv A outer s H vs Q E hr h
    exact ⟨t, PSs.nox h1, h2⟩
  have hB : Binds K fd ["steps", "row", "name"] [] := FunD.bindsN D fun _ _ _ _ _ _ us hl => match us, hl with | [_, _, _], _ => rfl
  exact ⟨_, fd, _, hF, F.g_count_of, D.kp, hB⟩
-- first_text: 0 program, 1 goal, 2 trails, 3 waiting, 4 here, 5 letter, 6 late
abbrev n_first_text : List Str := ["program", "goal", "trails", "waiting", "here", "letter", "late"]
theorem sc_first_text : FnScope n_first_text ["program", "goal"] (defScope s_first_text) := ⟨rfl, rfl, rfl, by decide +kernel, rfl, by decide +kernel, by decide +kernel⟩
theorem mk_first_text (F : Fc K mg) (len : ∀ vs H Q E, sp vs H Q E → vs.length = 2)
    (hb : ∀ (f : Addr) (cdv : Value) (A : Around) (outer : List Env) (s : Shared) (H : Hp) (vs : List V) (Q : VK) (E : XK), Room k (A.deeper (envOfC "first_text" (defScope s_first_text) s.heap.objs.size f cdv)) → sp vs H Q E →
      ∃ t, PSs (cxOf CX0 P w K mg base n_first_text "first_text" (defScope s_first_text) f cdv A outer s H E).nox (defBody s_first_text) t ∧ t { nx := fun _ H' => Q .non H', rt := Q } (start n_first_text vs) H) : Cal P w K mg base (k + 1) "first_text" sp := by
  obtain ⟨fd, D⟩ := F.c.def_ 29 (d := d_first_text) rfl
  have hF : FnOk P w K mg base CX0 (k + 1) (He.ga K "first_text") fd ["program", "goal"] sp := FunD.ok D sc_first_text (fun vs H Q E h => len vs H Q E h) fun cdv A outer s H vs Q E hr h => by
    obtain ⟨t, h1, h2⟩ := hb _ cdv A outer s H vs Q E hr h
    exact ⟨t, PSs.nox h1, h2⟩
  have hB : Binds K fd ["program", "goal"] [] := FunD.bindsN D fun _ _ _ _ _ _ us hl => match us, hl with | [_, _], _ => rfl
  exact ⟨_, fd, _, hF, F.g_first_text, D.kp, hB⟩
-- judge_thrifty: 0 program, 1 back, 2 rests, 3 waiting, 4 state, 5 names, 6 before, 7 letter, 8 uses, 9 late
abbrev n_judge_thrifty : List Str := ["program", "back", "rests", "waiting", "state", "names", "before", "letter", "uses", "late"]
theorem sc_judge_thrifty : FnScope n_judge_thrifty ["program"] (defScope s_judge_thrifty) := ⟨rfl, rfl, rfl, by decide +kernel, rfl, by decide +kernel, by decide +kernel⟩
theorem mk_judge_thrifty (F : Fc K mg) (len : ∀ vs H Q E, sp vs H Q E → vs.length = 1)
    (hb : ∀ (f : Addr) (cdv : Value) (A : Around) (outer : List Env) (s : Shared) (H : Hp) (vs : List V) (Q : VK) (E : XK), Room k (A.deeper (envOfC "judge_thrifty" (defScope s_judge_thrifty) s.heap.objs.size f cdv)) → sp vs H Q E →
      ∃ t, PSs (cxOf CX0 P w K mg base n_judge_thrifty "judge_thrifty" (defScope s_judge_thrifty) f cdv A outer s H E).nox (defBody s_judge_thrifty) t ∧ t { nx := fun _ H' => Q .non H', rt := Q } (start n_judge_thrifty vs) H) : Cal P w K mg base (k + 1) "judge_thrifty" sp := by
  obtain ⟨fd, D⟩ := F.c.def_ 30 (d := d_judge_thrifty) rfl
  have hF : FnOk P w K mg base CX0 (k + 1) (He.ga K "judge_thrifty") fd ["program"] sp := FunD.ok D sc_judge_thrifty (fun vs H Q E h => len vs H Q E h) fun cdv A outer s H vs Q E hr h => by
    obtain ⟨t, h1, h2⟩ := hb _ cdv A outer s H vs Q E hr h
    exact ⟨t, PSs.nox h1, h2⟩
  have hB : Binds K fd ["program"] [] := FunD.bindsN D fun _ _ _ _ _ _ us hl => match us, hl with | [_], _ => rfl
  exact ⟨_, fd, _, hF, F.g_judge_thrifty, D.kp, hB⟩
-- first_twice: 0 names, 1 name
abbrev n_first_twice : List Str := ["names", "name"]
theorem sc_first_twice : FnScope n_first_twice ["names"] (defScope s_first_twice) := ⟨rfl, rfl, rfl, by decide +kernel, rfl, by decide +kernel, by decide +kernel⟩
theorem mk_first_twice (F : Fc K mg) (len : ∀ vs H Q E, sp vs H Q E → vs.length = 1)
    (hb : ∀ (f : Addr) (cdv : Value) (A : Around) (outer : List Env) (s : Shared) (H : Hp) (vs : List V) (Q : VK) (E : XK), Room k (A.deeper (envOfC "first_twice" (defScope s_first_twice) s.heap.objs.size f cdv)) → sp vs H Q E →
      ∃ t, PSs (cxOf CX0 P w K mg base n_first_twice "first_twice" (defScope s_first_twice) f cdv A outer s H E).nox (defBody s_first_twice) t ∧ t { nx := fun _ H' => Q .non H', rt := Q } (start n_first_twice vs) H) : Cal P w K mg base (k + 1) "first_twice" sp := by
  obtain ⟨fd, D⟩ := F.c.def_ 31 (d := d_first_twice) rfl
  have hF : FnOk P w K mg base CX0 (k + 1) (He.ga K "first_twice") fd ["names"] sp := FunD.ok D sc_first_twice (fun vs H Q E h => len vs H Q E h) fun cdv A outer s H vs Q E hr h => by
    obtain ⟨t, h1, h2⟩ := hb _ cdv A outer s H vs Q E hr h
    exact ⟨t, PSs.nox h1, h2⟩
  have hB : Binds K fd ["names"] [] := FunD.bindsN D fun _ _ _ _ _ _ us hl => match us, hl with | [_], _ => rfl
  exact ⟨_, fd, _, hF, F.g_first_twice, D.kp, hB⟩
-- _law_cell_at: 0 _law_script, 1 _law_k
abbrev n__law_cell_at : List Str := ["_law_script", "_law_k"]
theorem sc__law_cell_at : FnScope n__law_cell_at ["_law_script", "_law_k"] (defScope s__law_cell_at) := ⟨rfl, rfl, rfl, by decide +kernel, rfl, by decide +kernel, by decide +kernel⟩
theorem mk__law_cell_at (F : Fc K mg) (len : ∀ vs H Q E, sp vs H Q E → vs.length = 2)
    (hb : ∀ (f : Addr) (cdv : Value) (A : Around) (outer : List Env) (s : Shared) (H : Hp) (vs : List V) (Q : VK) (E : XK), Room k (A.deeper (envOfC "_law_cell_at" (defScope s__law_cell_at) s.heap.objs.size f cdv)) → sp vs H Q E →
      ∃ t, PSs (cxOf CX0 P w K mg base n__law_cell_at "_law_cell_at" (defScope s__law_cell_at) f cdv A outer s H E).nox (defBody s__law_cell_at) t ∧ t { nx := fun _ H' => Q .non H', rt := Q } (start n__law_cell_at vs) H) : Cal P w K mg base (k + 1) "_law_cell_at" sp := by
  obtain ⟨fd, D⟩ := F.c.def_ 32 (d := d__law_cell_at) rfl
  have hF : FnOk P w K mg base CX0 (k + 1) (He.ga K "_law_cell_at") fd ["_law_script", "_law_k"] sp := FunD.ok D sc__law_cell_at (fun vs H Q E h => len vs H Q E h) fun cdv A outer s H vs Q E hr h => by
    obtain ⟨t, h1, h2⟩ := hb _ cdv A outer s H vs Q E hr h
    exact ⟨t, PSs.nox h1, h2⟩
  have hB : Binds K fd ["_law_script", "_law_k"] [] := FunD.bindsN D fun _ _ _ _ _ _ us hl => match us, hl with | [_, _], _ => rfl
  exact ⟨_, fd, _, hF, F.g__law_cell_at, D.kp, hB⟩
-- _law_draw: 0 _law_cell, 1 _law_k, 2 _law_bound, 3 _law_primes
abbrev n__law_draw : List Str := ["_law_cell", "_law_k", "_law_bound", "_law_primes"]
theorem sc__law_draw : FnScope n__law_draw ["_law_cell", "_law_k", "_law_bound"] (defScope s__law_draw) := ⟨rfl, rfl, rfl, by decide +kernel, rfl, by decide +kernel, by decide +kernel⟩
theorem mk__law_draw (F : Fc K mg) (len : ∀ vs H Q E, sp vs H Q E → vs.length = 3)
    (hb : ∀ (f : Addr) (cdv : Value) (A : Around) (outer : List Env) (s : Shared) (H : Hp) (vs : List V) (Q : VK) (E : XK), Room k (A.deeper (envOfC "_law_draw" (defScope s__law_draw) s.heap.objs.size f cdv)) → sp vs H Q E →
      ∃ t, PSs (cxOf CX0 P w K mg base n__law_draw "_law_draw" (defScope s__law_draw) f cdv A outer s H E).nox (defBody s__law_draw) t ∧ t { nx := fun _ H' => Q .non H', rt := Q } (start n__law_draw vs) H) : Cal P w K mg base (k + 1) "_law_draw" sp := by
  obtain ⟨fd, D⟩ := F.c.def_ 33 (d := d__law_draw) rfl
  have hF : FnOk P w K mg base CX0 (k + 1) (He.ga K "_law_draw") fd ["_law_cell", "_law_k", "_law_bound"] sp := FunD.ok D sc__law_draw (fun vs H Q E h => len vs H Q E h) fun cdv A outer s H vs Q E hr h => by
    obtain ⟨t, h1, h2⟩ := hb _ cdv A outer s H vs Q E hr h
    exact ⟨t, PSs.nox h1, h2⟩
  have hB : Binds K fd ["_law_cell", "_law_k", "_law_bound"] [] := FunD.bindsN D fun _ _ _ _ _ _ us hl => match us, hl with | [_, _, _], _ => rfl
  exact ⟨_, fd, _, hF, F.g__law_draw, D.kp, hB⟩
-- _law_number: 0 _law_cell, 1 _law_k, 2 _law_bound, 3 _law_power, 4 _law_lap, 5 _law_remains, 6 _law_small
abbrev n__law_number : List Str := ["_law_cell", "_law_k", "_law_bound", "_law_power", "_law_lap", "_law_remains", "_law_small"]
theorem sc__law_number : FnScope n__law_number ["_law_cell", "_law_k", "_law_bound"] (defScope s__law_number) := ⟨rfl, rfl, rfl, by decide +kernel, rfl, by decide +kernel, by decide +kernel⟩
theorem mk__law_number (F : Fc K mg) (len : ∀ vs H Q E, sp vs H Q E → vs.length = 3)
    (hb : ∀ (f : Addr) (cdv : Value) (A : Around) (outer : List Env) (s : Shared) (H : Hp) (vs : List V) (Q : VK) (E : XK), Room k (A.deeper (envOfC "_law_number" (defScope s__law_number) s.heap.objs.size f cdv)) → sp vs H Q E →
      ∃ t, PSs (cxOf CX0 P w K mg base n__law_number "_law_number" (defScope s__law_number) f cdv A outer s H E).nox (defBody s__law_number) t ∧ t { nx := fun _ H' => Q .non H', rt := Q } (start n__law_number vs) H) : Cal P w K mg base (k + 1) "_law_number" sp := by
  obtain ⟨fd, D⟩ := F.c.def_ 34 (d := d__law_number) rfl
  have hF : FnOk P w K mg base CX0 (k + 1) (He.ga K "_law_number") fd ["_law_cell", "_law_k", "_law_bound"] sp := FunD.ok D sc__law_number (fun vs H Q E h => len vs H Q E h) fun cdv A outer s H vs Q E hr h => by
    obtain ⟨t, h1, h2⟩ := hb _ cdv A outer s H vs Q E hr h
    exact ⟨t, PSs.nox h1, h2⟩
  have hB : Binds K fd ["_law_cell", "_law_k", "_law_bound"] [] := FunD.bindsN D fun _ _ _ _ _ _ us hl => match us, hl with | [_, _, _], _ => rfl
  exact ⟨_, fd, _, hF, F.g__law_number, D.kp, hB⟩
-- _law_next: 0 _law_draw_here, 1 _law_bound, 2 _law_at, 3 _law_cell
abbrev n__law_next : List Str := ["_law_draw_here", "_law_bound", "_law_at", "_law_cell"]
theorem sc__law_next : FnScope n__law_next ["_law_draw_here", "_law_bound"] (defScope s__law_next) := ⟨rfl, rfl, rfl, by decide +kernel, rfl, by decide +kernel, by decide +kernel⟩
theorem mk__law_next (F : Fc K mg) (len : ∀ vs H Q E, sp vs H Q E → vs.length = 2)
    (hb : ∀ (f : Addr) (cdv : Value) (A : Around) (outer : List Env) (s : Shared) (H : Hp) (vs : List V) (Q : VK) (E : XK), Room k (A.deeper (envOfC "_law_next" (defScope s__law_next) s.heap.objs.size f cdv)) → sp vs H Q E →
      ∃ t, PSs (cxOf CX0 P w K mg base n__law_next "_law_next" (defScope s__law_next) f cdv A outer s H E).nox (defBody s__law_next) t ∧ t { nx := fun _ H' => Q .non H', rt := Q } (start n__law_next vs) H) : Cal P w K mg base (k + 1) "_law_next" sp := by
  obtain ⟨fd, D⟩ := F.c.def_ 35 (d := d__law_next) rfl
  have hF : FnOk P w K mg base CX0 (k + 1) (He.ga K "_law_next") fd ["_law_draw_here", "_law_bound"] sp := FunD.ok D sc__law_next (fun vs H Q E h => len vs H Q E h) fun cdv A outer s H vs Q E hr h => by
    obtain ⟨t, h1, h2⟩ := hb _ cdv A outer s H vs Q E hr h
    exact ⟨t, PSs.nox h1, h2⟩
  have hB : Binds K fd ["_law_draw_here", "_law_bound"] [] := FunD.bindsN D fun _ _ _ _ _ _ us hl => match us, hl with | [_, _], _ => rfl
  exact ⟨_, fd, _, hF, F.g__law_next, D.kp, hB⟩
-- _law_pick: 0 _law_draw_here, 1 _law_things
abbrev n__law_pick : List Str := ["_law_draw_here", "_law_things"]
theorem sc__law_pick : FnScope n__law_pick ["_law_draw_here", "_law_things"] (defScope s__law_pick) := ⟨rfl, rfl, rfl, by decide +kernel, rfl, by decide +kernel, by decide +kernel⟩
theorem mk__law_pick (F : Fc K mg) (len : ∀ vs H Q E, sp vs H Q E → vs.length = 2)
    (hb : ∀ (f : Addr) (cdv : Value) (A : Around) (outer : List Env) (s : Shared) (H : Hp) (vs : List V) (Q : VK) (E : XK), Room k (A.deeper (envOfC "_law_pick" (defScope s__law_pick) s.heap.objs.size f cdv)) → sp vs H Q E →
      ∃ t, PSs (cxOf CX0 P w K mg base n__law_pick "_law_pick" (defScope s__law_pick) f cdv A outer s H E).nox (defBody s__law_pick) t ∧ t { nx := fun _ H' => Q .non H', rt := Q } (start n__law_pick vs) H) : Cal P w K mg base (k + 1) "_law_pick" sp := by
  obtain ⟨fd, D⟩ := F.c.def_ 36 (d := d__law_pick) rfl
  have hF : FnOk P w K mg base CX0 (k + 1) (He.ga K "_law_pick") fd ["_law_draw_here", "_law_things"] sp := FunD.ok D sc__law_pick (fun vs H Q E h => len vs H Q E h) fun cdv A outer s H vs Q E hr h => by
    obtain ⟨t, h1, h2⟩ := hb _ cdv A outer s H vs Q E hr h
    exact ⟨t, PSs.nox h1, h2⟩
  have hB : Binds K fd ["_law_draw_here", "_law_things"] [] := FunD.bindsN D fun _ _ _ _ _ _ us hl => match us, hl with | [_, _], _ => rfl
  exact ⟨_, fd, _, hF, F.g__law_pick, D.kp, hB⟩
-- _law_rows: 0 _law_draw_here, 1 _law_registers, 2 _law_signs, 3 _law_name, 4 _law_rows_here, 5 _law_target, 6 _law_text
abbrev n__law_rows : List Str := ["_law_draw_here", "_law_registers", "_law_signs", "_law_name", "_law_rows_here", "_law_target", "_law_text"]
theorem sc__law_rows : FnScope n__law_rows ["_law_draw_here", "_law_registers", "_law_signs"] (defScope s__law_rows) := ⟨rfl, rfl, rfl, by decide +kernel, rfl, by decide +kernel, by decide +kernel⟩
theorem mk__law_rows (F : Fc K mg) (len : ∀ vs H Q E, sp vs H Q E → vs.length = 3)
    (hb : ∀ (f : Addr) (cdv : Value) (A : Around) (outer : List Env) (s : Shared) (H : Hp) (vs : List V) (Q : VK) (E : XK), Room k (A.deeper (envOfC "_law_rows" (defScope s__law_rows) s.heap.objs.size f cdv)) → sp vs H Q E →
      ∃ t, PSs (cxOf CX0 P w K mg base n__law_rows "_law_rows" (defScope s__law_rows) f cdv A outer s H E).nox (defBody s__law_rows) t ∧ t { nx := fun _ H' => Q .non H', rt := Q } (start n__law_rows vs) H) : Cal P w K mg base (k + 1) "_law_rows" sp := by
  obtain ⟨fd, D⟩ := F.c.def_ 37 (d := d__law_rows) rfl
  have hF : FnOk P w K mg base CX0 (k + 1) (He.ga K "_law_rows") fd ["_law_draw_here", "_law_registers", "_law_signs"] sp := FunD.ok D sc__law_rows (fun vs H Q E h => len vs H Q E h) fun cdv A outer s H vs Q E hr h => by
    obtain ⟨t, h1, h2⟩ := hb _ cdv A outer s H vs Q E hr h
    exact ⟨t, PSs.nox h1, h2⟩
  have hB : Binds K fd ["_law_draw_here", "_law_registers", "_law_signs"] [] := FunD.bindsN D fun _ _ _ _ _ _ us hl => match us, hl with | [_, _, _], _ => rfl
  exact ⟨_, fd, _, hF, F.g__law_rows, D.kp, hB⟩
-- _law_end: 0 _law_draw_here, 1 _law_registers, 2 _law_signs, 3 _law_found, 4 _law_name
abbrev n__law_end : List Str := ["_law_draw_here", "_law_registers", "_law_signs", "_law_found", "_law_name"]
theorem sc__law_end : FnScope n__law_end ["_law_draw_here", "_law_registers", "_law_signs"] (defScope s__law_end) := ⟨rfl, rfl, rfl, by decide +kernel, rfl, by decide +kernel, by decide +kernel⟩
theorem mk__law_end (F : Fc K mg) (len : ∀ vs H Q E, sp vs H Q E → vs.length = 3)
    (hb : ∀ (f : Addr) (cdv : Value) (A : Around) (outer : List Env) (s : Shared) (H : Hp) (vs : List V) (Q : VK) (E : XK), Room k (A.deeper (envOfC "_law_end" (defScope s__law_end) s.heap.objs.size f cdv)) → sp vs H Q E →
      ∃ t, PSs (cxOf CX0 P w K mg base n__law_end "_law_end" (defScope s__law_end) f cdv A outer s H E).nox (defBody s__law_end) t ∧ t { nx := fun _ H' => Q .non H', rt := Q } (start n__law_end vs) H) : Cal P w K mg base (k + 1) "_law_end" sp := by
  obtain ⟨fd, D⟩ := F.c.def_ 38 (d := d__law_end) rfl
  have hF : FnOk P w K mg base CX0 (k + 1) (He.ga K "_law_end") fd ["_law_draw_here", "_law_registers", "_law_signs"] sp := FunD.ok D sc__law_end (fun vs H Q E h => len vs H Q E h) fun cdv A outer s H vs Q E hr h => by
    obtain ⟨t, h1, h2⟩ := hb _ cdv A outer s H vs Q E hr h
    exact ⟨t, PSs.nox h1, h2⟩
  have hB : Binds K fd ["_law_draw_here", "_law_registers", "_law_signs"] [] := FunD.bindsN D fun _ _ _ _ _ _ us hl => match us, hl with | [_, _, _], _ => rfl
  exact ⟨_, fd, _, hF, F.g__law_end, D.kp, hB⟩
-- _law_program: 0 _law_draw_here, 1 _law_signs, 2 _law_letters, 3 _law_states, 4 _law_registers, 5 _law_firsts, 6 _law_steps, 7 _law_ends, 8 _law_state, 9 _law_letter, 10 _law_name
abbrev n__law_program : List Str := ["_law_draw_here", "_law_signs", "_law_letters", "_law_states", "_law_registers", "_law_firsts", "_law_steps", "_law_ends", "_law_state", "_law_letter", "_law_name"]
theorem sc__law_program : FnScope n__law_program ["_law_draw_here", "_law_signs"] (defScope s__law_program) := ⟨rfl, rfl, rfl, by decide +kernel, rfl, by decide +kernel, by decide +kernel⟩
theorem mk__law_program (F : Fc K mg) (len : ∀ vs H Q E, sp vs H Q E → vs.length = 2)
    (hb : ∀ (f : Addr) (cdv : Value) (A : Around) (outer : List Env) (s : Shared) (H : Hp) (vs : List V) (Q : VK) (E : XK), Room k (A.deeper (envOfC "_law_program" (defScope s__law_program) s.heap.objs.size f cdv)) → sp vs H Q E →
      ∃ t, PSs (cxOf CX0 P w K mg base n__law_program "_law_program" (defScope s__law_program) f cdv A outer s H E).nox (defBody s__law_program) t ∧ t { nx := fun _ H' => Q .non H', rt := Q } (start n__law_program vs) H) : Cal P w K mg base (k + 1) "_law_program" sp := by
  obtain ⟨fd, D⟩ := F.c.def_ 39 (d := d__law_program) rfl
  have hF : FnOk P w K mg base CX0 (k + 1) (He.ga K "_law_program") fd ["_law_draw_here", "_law_signs"] sp := FunD.ok D sc__law_program (fun vs H Q E h => len vs H Q E h) fun cdv A outer s H vs Q E hr h => by
    obtain ⟨t, h1, h2⟩ := hb _ cdv A outer s H vs Q E hr h
    exact ⟨t, PSs.nox h1, h2⟩
  have hB : Binds K fd ["_law_draw_here", "_law_signs"] [] := FunD.bindsN D fun _ _ _ _ _ _ us hl => match us, hl with | [_, _], _ => rfl
  exact ⟨_, fd, _, hF, F.g__law_program, D.kp, hB⟩
-- _law_write: 0 _law_row, 1 _law_held, 2 _law_item
abbrev n__law_write : List Str := ["_law_row", "_law_held", "_law_item"]
theorem sc__law_write : FnScope n__law_write ["_law_row", "_law_held"] (defScope s__law_write) := ⟨rfl, rfl, rfl, by decide +kernel, rfl, by decide +kernel, by decide +kernel⟩
theorem mk__law_write (F : Fc K mg) (len : ∀ vs H Q E, sp vs H Q E → vs.length = 2)
    (hb : ∀ (f : Addr) (cdv : Value) (A : Around) (outer : List Env) (s : Shared) (H : Hp) (vs : List V) (Q : VK) (E : XK), Room k (A.deeper (envOfC "_law_write" (defScope s__law_write) s.heap.objs.size f cdv)) → sp vs H Q E →
      ∃ t, PSs (cxOf CX0 P w K mg base n__law_write "_law_write" (defScope s__law_write) f cdv A outer s H E).nox (defBody s__law_write) t ∧ t { nx := fun _ H' => Q .non H', rt := Q } (start n__law_write vs) H) : Cal P w K mg base (k + 1) "_law_write" sp := by
  obtain ⟨fd, D⟩ := F.c.def_ 40 (d := d__law_write) rfl
  have hF : FnOk P w K mg base CX0 (k + 1) (He.ga K "_law_write") fd ["_law_row", "_law_held"] sp := FunD.ok D sc__law_write (fun vs H Q E h => len vs H Q E h) fun cdv A outer s H vs Q E hr h => by
    obtain ⟨t, h1, h2⟩ := hb _ cdv A outer s H vs Q E hr h
    exact ⟨t, PSs.nox h1, h2⟩
  have hB : Binds K fd ["_law_row", "_law_held"] [] := FunD.bindsN D fun _ _ _ _ _ _ us hl => match us, hl with | [_, _], _ => rfl
  exact ⟨_, fd, _, hF, F.g__law_write, D.kp, hB⟩
-- _law_uses: 0 _law_row, 1 _law_item
abbrev n__law_uses : List Str := ["_law_row", "_law_item"]
theorem sc__law_uses : FnScope n__law_uses ["_law_row"] (defScope s__law_uses) := ⟨rfl, rfl, rfl, by decide +kernel, rfl, by decide +kernel, by decide +kernel⟩
theorem mk__law_uses (F : Fc K mg) (len : ∀ vs H Q E, sp vs H Q E → vs.length = 1)
    (hb : ∀ (f : Addr) (cdv : Value) (A : Around) (outer : List Env) (s : Shared) (H : Hp) (vs : List V) (Q : VK) (E : XK), Room k (A.deeper (envOfC "_law_uses" (defScope s__law_uses) s.heap.objs.size f cdv)) → sp vs H Q E →
      ∃ t, PSs (cxOf CX0 P w K mg base n__law_uses "_law_uses" (defScope s__law_uses) f cdv A outer s H E).nox (defBody s__law_uses) t ∧ t { nx := fun _ H' => Q .non H', rt := Q } (start n__law_uses vs) H) : Cal P w K mg base (k + 1) "_law_uses" sp := by
  obtain ⟨fd, D⟩ := F.c.def_ 41 (d := d__law_uses) rfl
  have hF : FnOk P w K mg base CX0 (k + 1) (He.ga K "_law_uses") fd ["_law_row"] sp := FunD.ok D sc__law_uses (fun vs H Q E h => len vs H Q E h) fun cdv A outer s H vs Q E hr h => by
    obtain ⟨t, h1, h2⟩ := hb _ cdv A outer s H vs Q E hr h
    exact ⟨t, PSs.nox h1, h2⟩
  have hB : Binds K fd ["_law_row"] [] := FunD.bindsN D fun _ _ _ _ _ _ us hl => match us, hl with | [_], _ => rfl
  exact ⟨_, fd, _, hF, F.g__law_uses, D.kp, hB⟩
-- _law_has_twice: 0 _law_names
abbrev n__law_has_twice : List Str := ["_law_names"]
theorem sc__law_has_twice : FnScope n__law_has_twice ["_law_names"] (defScope s__law_has_twice) := ⟨rfl, rfl, rfl, by decide +kernel, rfl, by decide +kernel, by decide +kernel⟩
theorem mk__law_has_twice (F : Fc K mg) (len : ∀ vs H Q E, sp vs H Q E → vs.length = 1)
    (hb : ∀ (f : Addr) (cdv : Value) (A : Around) (outer : List Env) (s : Shared) (H : Hp) (vs : List V) (Q : VK) (E : XK), Room k (A.deeper (envOfC "_law_has_twice" (defScope s__law_has_twice) s.heap.objs.size f cdv)) → sp vs H Q E →
      ∃ t, PSs (cxOf CX0 P w K mg base n__law_has_twice "_law_has_twice" (defScope s__law_has_twice) f cdv A outer s H E).nox (defBody s__law_has_twice) t ∧ t { nx := fun _ H' => Q .non H', rt := Q } (start n__law_has_twice vs) H) : Cal P w K mg base (k + 1) "_law_has_twice" sp := by
  obtain ⟨fd, D⟩ := F.c.def_ 42 (d := d__law_has_twice) rfl
  have hF : FnOk P w K mg base CX0 (k + 1) (He.ga K "_law_has_twice") fd ["_law_names"] sp := FunD.ok D sc__law_has_twice (fun vs H Q E h => len vs H Q E h) fun cdv A outer s H vs Q E hr h => by
    obtain ⟨t, h1, h2⟩ := hb _ cdv A outer s H vs Q E hr h
    exact ⟨t, PSs.nox h1, h2⟩
  have hB : Binds K fd ["_law_names"] [] := FunD.bindsN D fun _ _ _ _ _ _ us hl => match us, hl with | [_], _ => rfl
  exact ⟨_, fd, _, hF, F.g__law_has_twice, D.kp, hB⟩
-- _law_reached: 0 _law_told, 1 _law_found, 2 _law_turn, 3 _law_state, 4 _law_letter
abbrev n__law_reached : List Str := ["_law_told", "_law_found", "_law_turn", "_law_state", "_law_letter"]
theorem sc__law_reached : FnScope n__law_reached ["_law_told"] (defScope s__law_reached) := ⟨rfl, rfl, rfl, by decide +kernel, rfl, by decide +kernel, by decide +kernel⟩
theorem mk__law_reached (F : Fc K mg) (len : ∀ vs H Q E, sp vs H Q E → vs.length = 1)
    (hb : ∀ (f : Addr) (cdv : Value) (A : Around) (outer : List Env) (s : Shared) (H : Hp) (vs : List V) (Q : VK) (E : XK), Room k (A.deeper (envOfC "_law_reached" (defScope s__law_reached) s.heap.objs.size f cdv)) → sp vs H Q E →
      ∃ t, PSs (cxOf CX0 P w K mg base n__law_reached "_law_reached" (defScope s__law_reached) f cdv A outer s H E).nox (defBody s__law_reached) t ∧ t { nx := fun _ H' => Q .non H', rt := Q } (start n__law_reached vs) H) : Cal P w K mg base (k + 1) "_law_reached" sp := by
  obtain ⟨fd, D⟩ := F.c.def_ 43 (d := d__law_reached) rfl
  have hF : FnOk P w K mg base CX0 (k + 1) (He.ga K "_law_reached") fd ["_law_told"] sp := FunD.ok D sc__law_reached (fun vs H Q E h => len vs H Q E h) fun cdv A outer s H vs Q E hr h => by
    obtain ⟨t, h1, h2⟩ := hb _ cdv A outer s H vs Q E hr h
    exact ⟨t, PSs.nox h1, h2⟩
  have hB : Binds K fd ["_law_told"] [] := FunD.bindsN D fun _ _ _ _ _ _ us hl => match us, hl with | [_], _ => rfl
  exact ⟨_, fd, _, hF, F.g__law_reached, D.kp, hB⟩
-- _law_lives: 0 _law_told, 1 _law_reached_here, 2 _law_pairs, 3 _law_is_twice, 4 _law_state, 5 _law_names, 6 _law_turn, 7 _law_more, 8 _law_before, 9 _law_letter, 10 _law_goal, 11 _law_rows_here, 12 _law_uses_here, 13 _law_name
abbrev n__law_lives : List Str := ["_law_told", "_law_reached_here", "_law_pairs", "_law_is_twice", "_law_state", "_law_names", "_law_turn", "_law_more", "_law_before", "_law_letter", "_law_goal", "_law_rows_here", "_law_uses_here", "_law_name"]
theorem sc__law_lives : FnScope n__law_lives ["_law_told"] (defScope s__law_lives) := ⟨rfl, rfl, rfl, by decide +kernel, rfl, by decide +kernel, by decide +kernel⟩
theorem mk__law_lives (F : Fc K mg) (len : ∀ vs H Q E, sp vs H Q E → vs.length = 1)
    (hb : ∀ (f : Addr) (cdv : Value) (A : Around) (outer : List Env) (s : Shared) (H : Hp) (vs : List V) (Q : VK) (E : XK), Room k (A.deeper (envOfC "_law_lives" (defScope s__law_lives) s.heap.objs.size f cdv)) → sp vs H Q E →
      ∃ t, PSs (cxOf CX0 P w K mg base n__law_lives "_law_lives" (defScope s__law_lives) f cdv A outer s H E).nox (defBody s__law_lives) t ∧ t { nx := fun _ H' => Q .non H', rt := Q } (start n__law_lives vs) H) : Cal P w K mg base (k + 1) "_law_lives" sp := by
  obtain ⟨fd, D⟩ := F.c.def_ 44 (d := d__law_lives) rfl
  have hF : FnOk P w K mg base CX0 (k + 1) (He.ga K "_law_lives") fd ["_law_told"] sp := FunD.ok D sc__law_lives (fun vs H Q E h => len vs H Q E h) fun cdv A outer s H vs Q E hr h => by
    obtain ⟨t, h1, h2⟩ := hb _ cdv A outer s H vs Q E hr h
    exact ⟨t, PSs.nox h1, h2⟩
  have hB : Binds K fd ["_law_told"] [] := FunD.bindsN D fun _ _ _ _ _ _ us hl => match us, hl with | [_], _ => rfl
  exact ⟨_, fd, _, hF, F.g__law_lives, D.kp, hB⟩
-- law: 0 _law_script, 1 _law_draw_here, 2 _law_told, 3 _law_letters, 4 _law_states, 5 _law_registers, 6 _law_firsts, 7 _law_steps, 8 _law_ends, 9 _law_place, 10 _law_name, 11 _law_goal, 12 _law_rows_here, 13 _law_program_here, 14 _law_pairs, 15 _law_is_twice, 16 _law_found, 17 _law_state, 18 _law_twice, 19 _law_names, 20 _law_row, 21 _law_pair, 22 _law_mark, 23 _law_late, 24 _law_last, 25 _law_held, 26 _law_here, 27 _law_letter, 28 _law_one, 29 _law_item
abbrev n_law : List Str := ["_law_script", "_law_draw_here", "_law_told", "_law_letters", "_law_states", "_law_registers", "_law_firsts", "_law_steps", "_law_ends", "_law_place", "_law_name", "_law_goal", "_law_rows_here", "_law_program_here", "_law_pairs", "_law_is_twice", "_law_found", "_law_state", "_law_twice", "_law_names", "_law_row", "_law_pair", "_law_mark", "_law_late", "_law_last", "_law_held", "_law_here", "_law_letter", "_law_one", "_law_item"]
theorem sc_law : FnScope n_law ["_law_script"] (defScope s_law) := ⟨rfl, rfl, rfl, by decide +kernel, rfl, by decide +kernel, by decide +kernel⟩
theorem mk_law (F : Fc K mg) (len : ∀ vs H Q E, sp vs H Q E → vs.length = 1)
    (hb : ∀ (f : Addr) (cdv : Value) (A : Around) (outer : List Env) (s : Shared) (H : Hp) (vs : List V) (Q : VK) (E : XK), Room k (A.deeper (envOfC "law" (defScope s_law) s.heap.objs.size f cdv)) → sp vs H Q E →
      ∃ t, PSs (cxOf CX0 P w K mg base n_law "law" (defScope s_law) f cdv A outer s H E).nox (defBody s_law) t ∧ t { nx := fun _ H' => Q .non H', rt := Q } (start n_law vs) H) : Cal P w K mg base (k + 1) "law" sp := by
  obtain ⟨fd, D⟩ := F.c.def_ 45 (d := d_law) rfl
  have hF : FnOk P w K mg base CX0 (k + 1) (He.ga K "law") fd ["_law_script"] sp := FunD.ok D sc_law (fun vs H Q E h => len vs H Q E h) fun cdv A outer s H vs Q E hr h => by
    obtain ⟨t, h1, h2⟩ := hb _ cdv A outer s H vs Q E hr h
    exact ⟨t, PSs.nox h1, h2⟩
  have hB : Binds K fd ["_law_script"] [] := FunD.bindsN D fun _ _ _ _ _ _ us hl => match us, hl with | [_], _ => rfl
  exact ⟨_, fd, _, hF, F.g_law, D.kp, hB⟩
end
end K02
set_option Elab.async false
set_option linter.all false
set_option maxRecDepth 100000
set_option maxHeartbeats 4000000
/-! More of the layer: isinstance, fields, dicts, texts. -/
namespace K02
open PySem PySem.Spec PyProof.Rows L2
section
variable {K : PySem.W.Frag} {mg : Str → Option Value} {σ : Sl} {D D' H : Hp} {te ta tb tk tv td : TE} {tt : TT} {t u z : Ty} {ts : List Ty} {r : R2}
theorem Fc.vs_SMALL (F : Fc K mg) : ∃ u, mg "SMALL" = some u ∧ RelV (.str "abcdefghijklmnopqrstuvwxyz") u := by
  obtain ⟨t, h⟩ := F.s_SMALL
  exact ⟨_, h, t, rfl⟩
theorem Fc.vs_SIGNS (F : Fc K mg) : ∃ u, mg "SIGNS" = some u ∧ RelV (.str "abcdefghijklmnopqrstuvwxyz0123456789") u := by
  obtain ⟨t, h⟩ := F.s_SIGNS
  exact ⟨_, h, t, rfl⟩
theorem Fc.vi_MOST_LETTERS (F : Fc K mg) : ∃ u, mg "MOST_LETTERS" = some u ∧ RelV (.int 4) u := by
  obtain ⟨t, h⟩ := F.i_MOST_LETTERS
  exact ⟨_, h, t, rfl⟩
theorem Fc.vi_MOST_STATES (F : Fc K mg) : ∃ u, mg "MOST_STATES" = some u ∧ RelV (.int 300) u := by
  obtain ⟨t, h⟩ := F.i_MOST_STATES
  exact ⟨_, h, t, rfl⟩
theorem Fc.vi_MOST_REGISTERS (F : Fc K mg) : ∃ u, mg "MOST_REGISTERS" = some u ∧ RelV (.int 60) u := by
  obtain ⟨t, h⟩ := F.i_MOST_REGISTERS
  exact ⟨_, h, t, rfl⟩
theorem Fc.vi_MOST_LIVES (F : Fc K mg) : ∃ u, mg "MOST_LIVES" = some u ∧ RelV (.int 4000) u := by
  obtain ⟨t, h⟩ := F.i_MOST_LIVES
  exact ⟨_, h, t, rfl⟩

theorem Fc.ins_P (F : Fc K mg) : C8.InsC K (CP K) := insC_of F.cls_Program (He.ba F.x).1
theorem Fc.ins_T (F : Fc K mg) : C8.InsC K (CT K) := insC_of F.cls_Thrifty (He.ba (He.ba F.x).2).1
theorem Fc.ins_W (F : Fc K mg) : C8.InsC K (CW K) := insC_of F.cls_Twice (He.ba (He.ba F.x).2).2
/-! ### isinstance -/
def TyIs (K : PySem.W.Frag) (t : Ty) (n : String) : Prop := ∀ v D H, Kp D H → t.p v D → TyX K H v (.type n)
theorem is_int {i : Int} : TyIs K (tyI i) "int" := fun v D H k h => by
  have h : v = .int i := h
  subst h
  exact .base (.int i)
theorem is_str {s : Str} : TyIs K (tyS s) "str" := fun v D H k h => by
  have h : v = .str s := h
  subst h
  exact .base (.str s)
theorem is_bl {b : Bool} : TyIs K (tyB b) "bool" := fun v D H k h => by
  have h : v = .bl b := h
  subst h
  exact .base (.bl b)
theorem is_tup : TyIs K (tyT ts) "tuple" := fun v D H k h => by
  obtain ⟨a, vs, rfl, ha, _⟩ := h
  exact .base (.tup (k.q.fx (u := .tup vs) True.intro ha))
theorem is_lst : TyIs K (tyL ts) "list" := fun v D H k h => by
  obtain ⟨a, vs, rfl, ha, _⟩ := h
  exact .base (.lst (k.q.fx (u := .lst vs) True.intro ha))
theorem is_dK {kts : List (Key × Ty)} : TyIs K (tyD kts) "dict" := fun v D H k h => by
  obtain ⟨a, kvs, rfl, ha, _⟩ := h
  rcases k.q.sf (u := .dK kvs) True.intro ha with r | ⟨o, r⟩
  · exact .base (.dK r)
  · exact .fDict r
theorem rc_isi {n m : String} {b : Bool} (h : TyIs K t n) (e : kitB n m = some b) : RC (rIsi K) [t, tyV (.ty m)] (tyB b) := fun xs D H k hx Q q => by
  cases hx with
  | cons h1 h2 =>
    cases h2 with
    | cons h3 h4 =>
      cases h4
      have e3 : _ = V.ty m := h3
      subst e3
      exact ⟨_, _, _, _, b, rfl, .ty m, h _ D H k h1, kit_ty e, q _ D H (Grow.refl k) rfl⟩
/-- isinstance(x, T), the answer told by the two names -/
theorem ev_isi {n m : String} {b : Bool} (e : Ev te σ D t) (h : TyIs K t n) (hb : kitB n m = some b) : Ev (tCB (rIsi K) (tCons te (tCons (tC (.ty m)) tNil))) σ D (tyB b) :=
  ev_cb (ea_cons e (ea_cons ev_c ea_nil)) (rc_isi h hb)

/-! ### texts -/
theorem rv_inSign {c : Nat} {z : Str} : RV (fun x y H Q => ∃ (c : Nat) (z : Str), x = .str ⟨#[c]⟩ ∧ y = .str z ∧ Q (.bl (decide (c ∈ z.cps.toList))) H) (tyS (sign c)) (tyS z) (tyB (decide (c ∈ z.cps.toList))) :=
  RV.plain fun H Q q => ⟨c, z, rfl, rfl, q⟩
theorem rv_notInSign {c : Nat} {z : Str} : RV (fun x y H Q => ∃ (c : Nat) (z : Str), x = .str ⟨#[c]⟩ ∧ y = .str z ∧ Q (.bl (!decide (c ∈ z.cps.toList))) H) (tyS (sign c)) (tyS z) (tyB (!decide (c ∈ z.cps.toList))) :=
  RV.plain fun H Q q => ⟨c, z, rfl, rfl, q⟩
theorem rc_allF {α : Type} {xs : List α} {f : α → Bool} : RC (rAll K) [tyL (xs.map fun a => tyB (f a))] (tyB (xs.all f)) := by
  have h := rc_all (K := K) (bs := xs.map f)
  rw [List.map_map, List.all_map] at h
  exact h
theorem rc_anyF {α : Type} {xs : List α} {f : α → Bool} : RC (rAny K) [tyL (xs.map fun a => tyB (f a))] (tyB (xs.any f)) := by
  have h := rc_any (K := K) (bs := xs.map f)
  rw [List.map_map, List.any_map] at h
  exact h
/-- the signs of texts, one behind another -/
def glue (ys : List Str) : Str := Txt.join Str.empty ys
theorem ev_join {ys : List Str} (e : Ev te σ D (tyL (ys.map tyS))) (hz : (ys.map (·.length)).sum ≤ 16777216) : Ev (tM1 (fun x xs H Q => ∃ a p, ∃ ys : List Str, x = .str a ∧ xs = [.ref p] ∧ (SqL K H p (ys.map V.str) ∨ SqT K H p (ys.map V.str)) ∧
      (ys.map (·.length)).sum + ys.length * a.length ≤ 16777216 ∧ Q (.str (Txt.join a ys)) H) (tC (.str Str.empty)) te) σ D (tyS (glue ys)) := fun D1 H k h Q q => ⟨⟨_, rfl⟩, e D1 H k h _ fun v D2 H2 g2 tv => by
  obtain ⟨a, vs, rfl, ha, hv⟩ := tv
  have e1 : vs = ys.map V.str := all_flat (by rw [List.map_map]; exact hv)
  subst e1
  exact ⟨Str.empty, a, ys, rfl, rfl, .inl (SqL.of (g2.dh.q.fx (u := .lst _) True.intro ha)), by
    show _ + ys.length * 0 ≤ _
    omega, q _ D2 H2 g2 rfl⟩⟩

/-! ### fields, dicts -/
theorem ev_fld {C : Addr} {fts : List (Str × Ty)} {f : Str} (e : Ev te σ D (tyO C fts)) (c : Cls K C) (n : NoAttr K C f) (hf : Has fts f t) : Ev (tFld K te f) σ D t := fun D1 H k h Q q => e D1 H k h _ fun v D2 H2 g2 tv => by
  obtain ⟨a, dx, fs, rfl, ha, hv⟩ := tv
  have lk : ∀ (fts : List (Str × Ty)) (fs : List (Str × V)), KvsAt fts fs D2 → Has fts f t → ∃ v, fs.lookup f = some v ∧ t.p v D2 := by
    intro fts fs r
    induction r with
    | nil => intro hf; cases hf
    | @cons p q ps qs r _ ih =>
      intro hf
      unfold Has at hf
      rw [List.find?_cons] at hf
      obtain ⟨r1, r2⟩ := r
      by_cases c : q.1 = f
      · rw [decide_eq_true c] at hf
        cases hf
        refine ⟨p.2, ?_, r2⟩
        obtain ⟨p1, p2⟩ := p
        have ep : f = p1 := c.symm.trans r1.symm
        rw [List.lookup_cons, beq_iff_eq.mpr ep]
      · rw [decide_eq_false c] at hf
        obtain ⟨v, h1, h2⟩ := ih hf
        obtain ⟨p1, p2⟩ := p
        have ep : ¬ f = p1 := fun z => c (r1.symm.trans z.symm)
        refine ⟨v, ?_, h2⟩
        rw [List.lookup_cons, beq_false_of_ne ep]
        exact h1
  obtain ⟨v, h1, h2⟩ := lk fts fs hv hf
  exact ⟨a, C, dx, fs, v, rfl, g2.dh.q.fx (u := .ins C dx fs) True.intro ha, c, n, h1, q v D2 H2 g2 h2⟩
/-- a key of a dict -/
theorem ev_dget {kts : List (Key × Ty)} {k : Key} (ed : Ev td σ D (tyD kts)) (ek : Ev tk σ D (tyV (kV k))) (h : Has kts k t) : Ev (tDGet td tk) σ D t := fun D1 H k1 h1 Q q =>
  ed D1 H k1 h1 _ fun x D2 H2 g2 tx => ek D2 H2 (k1.trans g2.d) g2.dh _ fun y D3 H3 g3 ty => by
    obtain ⟨a, kvs, rfl, ha, hv⟩ := (tyD kts).up g3.d.q tx
    have ty : y = kV k := ty
    subst ty
    obtain ⟨v, e1, e2⟩ := (lookup_at hv k).1 t h
    exact ⟨a, v, rfl, .inl ⟨kvs, k, g3.dh.q.sf (u := .dK kvs) True.intro ha, rfl, e1.symm⟩, q v D3 H3 (g2.trans g3) e2⟩
theorem ev_dgetT {kts : List (List Key × Ty)} {k : List Key} (ed : Ev td σ D (tyE kts)) (ek : Ev tk σ D (tyT (k.map fun x => tyV (kV x)))) (h : Has kts k t) : Ev (tDGet td tk) σ D t := fun D1 H k1 h1 Q q =>
  ed D1 H k1 h1 _ fun x D2 H2 g2 tx => ek D2 H2 (k1.trans g2.d) g2.dh _ fun y D3 H3 g3 ty => by
    obtain ⟨a, kvs, rfl, ha, hv⟩ := (tyE kts).up g3.d.q tx
    obtain ⟨b, vs, rfl, hb, hw⟩ := ty
    have e0 : vs = k.map kV := all_flat (by rw [List.map_map]; exact hw)
    subst e0
    obtain ⟨v, e1, e2⟩ := (lookup_at hv k).1 t h
    exact ⟨a, v, rfl, .inr ⟨kvs, k, b, g3.dh.q.sf (u := .dT kvs) True.intro ha, rfl, g3.dh.q.fx (u := .tup _) True.intro hb, e1.symm⟩, q v D3 H3 (g2.trans g3) e2⟩
theorem ev_din {kts : List (Key × Ty)} {k : Key} {b : Bool} (ed : Ev td σ D (tyD kts)) (ek : Ev tk σ D (tyV (kV k))) (h : (b = true ∧ ∃ t, Has kts k t) ∨ (b = false ∧ HasNo kts k)) : Ev (tDIn tk td) σ D (tyB b) := fun D1 H k1 h1 Q q =>
  ek D1 H k1 h1 _ fun y D2 H2 g2 ty => ed D2 H2 (k1.trans g2.d) g2.dh _ fun x D3 H3 g3 tx => by
    obtain ⟨a, kvs, rfl, ha, hv⟩ := tx
    have ty : y = kV k := ty
    subst ty
    refine ⟨a, valV kvs k, rfl, .inl ⟨kvs, k, g3.dh.q.sf (u := .dK kvs) True.intro ha, rfl, rfl⟩, ?_⟩
    rcases h with ⟨rfl, t, h⟩ | ⟨rfl, h⟩
    · obtain ⟨v, e1, _⟩ := (lookup_at hv k).1 t h
      rw [e1]
      exact q _ D3 H3 (g2.trans g3) rfl
    · rw [(lookup_at hv k).2 h]
      exact q _ D3 H3 (g2.trans g3) rfl
theorem ev_dinT {kts : List (List Key × Ty)} {k : List Key} {b : Bool} (ed : Ev td σ D (tyE kts)) (ek : Ev tk σ D (tyT (k.map fun x => tyV (kV x)))) (h : (b = true ∧ ∃ t, Has kts k t) ∨ (b = false ∧ HasNo kts k)) : Ev (tDIn tk td) σ D (tyB b) := fun D1 H k1 h1 Q q =>
  ek D1 H k1 h1 _ fun y D2 H2 g2 ty => ed D2 H2 (k1.trans g2.d) g2.dh _ fun x D3 H3 g3 tx => by
    obtain ⟨a, kvs, rfl, ha, hv⟩ := tx
    obtain ⟨c, vs, rfl, hb, hw⟩ := (tyT _).up g3.d.q ty
    have e0 : vs = k.map kV := all_flat (by rw [List.map_map]; exact hw)
    subst e0
    refine ⟨a, valV kvs k, rfl, .inr ⟨kvs, k, c, g3.dh.q.sf (u := .dT kvs) True.intro ha, rfl, g3.dh.q.fx (u := .tup _) True.intro hb, rfl⟩, ?_⟩
    rcases h with ⟨rfl, t, h⟩ | ⟨rfl, h⟩
    · obtain ⟨v, e1, _⟩ := (lookup_at hv k).1 t h
      rw [e1]
      exact q _ D3 H3 (g2.trans g3) rfl
    · rw [(lookup_at hv k).2 h]
      exact q _ D3 H3 (g2.trans g3) rfl
theorem ev_dget2 {kts : List (Key × Ty)} {k : Key} {tx : TE} (ed : Ev td σ D (tyD kts)) (ek : Ev tk σ D (tyV (kV k))) (ex : Ev tx σ D u) (h : Has kts k t ∨ (HasNo kts k ∧ t = u)) : Ev (tDGet2 td tk tx) σ D t := fun D1 H k1 h1 Q q =>
  ed D1 H k1 h1 _ fun x D2 H2 g2 t2 => by
    obtain ⟨a, kvs, rfl, ha, hv⟩ := t2
    refine ⟨a, rfl, .inl ⟨kvs, g2.dh.q.sf (u := .dK kvs) True.intro ha⟩, ?_⟩
    refine ek D2 H2 (k1.trans g2.d) g2.dh _ fun y D3 H3 g3 ty => ex D3 H3 ((k1.trans g2.d).trans g3.d) g3.dh _ fun w D4 H4 g4 tw => ?_
    have ty : y = kV k := ty
    subst ty
    have hv4 := KvsAt.up (g3.d.trans g4.d).q hv
    refine ⟨valV kvs k, .inl ⟨kvs, k, g4.dh.q.sf (u := .dK kvs) True.intro ((g3.d.trans g4.d).q.sf (u := .dK kvs) True.intro ha), rfl, rfl⟩, ?_⟩
    rcases h with h | ⟨h, rfl⟩
    · obtain ⟨v, e1, e2⟩ := (lookup_at hv4 k).1 t h
      rw [e1]
      exact q v D4 H4 ((g2.trans g3).trans g4) e2
    · rw [(lookup_at hv4 k).2 h]
      exact q w D4 H4 ((g2.trans g3).trans g4) tw
end
end K02
set_option Elab.async false
set_option linter.all false
set_option maxRecDepth 100000
set_option maxHeartbeats 4000000
/-! Reads that change nothing, locks, walks over dicts, loops, things that are changed where they stand. -/
namespace K02
open PySem PySem.Spec PyProof.Rows L2
/-- reads that change nothing -/
def Pu (te : TE) (σ : Sl) (D : Hp) (v : V) : Prop := ∀ H, Kq D H → ∀ Q : VK, Q v H → te σ H Q
/-- no dict is locked -/
def NoLk (D : Hp) : Prop := ∀ a o u, Soft u → D a ≠ some (.frz o u)
/-- no dict with plain keys is locked -/
def NoLkK (D : Hp) : Prop := ∀ a o l, D a ≠ some (.frz o (.dK l))
section
variable {K : PySem.W.Frag} {σ : Sl} {D D' H : Hp} {te ta tk td : TE} {tt : TT} {t u : Ty} {ts : List Ty} {v : V}
theorem NoLk.up (k : Kp D D') (n : NoLk D) : NoLk D' := fun a o u s e => n a o u s (k.nl.mpr e)
theorem NoLk.k (n : NoLk D) : NoLkK D := fun a o l e => n a o (.dK l) True.intro e
theorem NoLkK.up (k : Kp D D') (n : NoLkK D) : NoLkK D' := fun a o l e => n a o l (k.nl.mpr e)
theorem NoLkK.rd {a : Addr} {l : List (Key × V)} (n : NoLkK D) (h : Rd D a (.dK l)) : D a = some (.dK l) := by
  rcases h with h | ⟨o, h⟩
  · exact h
  · exact absurd h (n a o l)
theorem NoLk.rdT {a : Addr} {l : List (List Key × V)} (n : NoLk D) (h : Rd D a (.dT l)) : D a = some (.dT l) := by
  rcases h with h | ⟨o, h⟩
  · exact h
  · exact absurd h (n a o (.dT l) True.intro)
theorem NoLkK.lkT {d : Addr} {od : Obj} {l : List (List Key × V)} (n : NoLkK D) : NoLkK (upd D d (.frz od (.dT l))) := fun a o m e => by
  by_cases c : a = d
  · subst c
    rw [upd_same] at e
    cases e
  · rw [upd_ne c] at e
    exact n a o m e
theorem Pu.ev (p : Pu te σ D v) (tv : t.p v D) : Ev te σ D t := fun D1 H k h Q q => p H (k.trans h).q Q (q v D1 H (Grow.refl h) (t.up k.q tv))
theorem Pu.up (k : Kq D D') (p : Pu te σ D v) : Pu te σ D' v := fun H h Q q => p H (k.trans h) Q q
theorem pu_var {i : Nat} (h : σ[i]? = some (some v)) : Pu (tVar i) σ D v := fun H k Q q => ⟨v, h, q⟩
theorem fld_at {fts : List (Str × Ty)} {fs : List (Str × V)} {f : Str} (r : KvsAt fts fs D) (hf : Has fts f t) : ∃ v, fs.lookup f = some v ∧ t.p v D := by
  induction r with
  | nil => cases hf
  | @cons p q ps qs r _ ih =>
    unfold Has at hf
    rw [List.find?_cons] at hf
    obtain ⟨r1, r2⟩ := r
    by_cases c : q.1 = f
    · rw [decide_eq_true c] at hf
      cases hf
      refine ⟨p.2, ?_, r2⟩
      obtain ⟨p1, p2⟩ := p
      have ep : f = p1 := c.symm.trans r1.symm
      rw [List.lookup_cons, beq_iff_eq.mpr ep]
    · rw [decide_eq_false c] at hf
      obtain ⟨v, h1, h2⟩ := ih hf
      obtain ⟨p1, p2⟩ := p
      have ep : ¬ f = p1 := fun z => c (r1.symm.trans z.symm)
      refine ⟨v, ?_, h2⟩
      rw [List.lookup_cons, beq_false_of_ne ep]
      exact h1
theorem pu_fld {C : Addr} {fts : List (Str × Ty)} {f : Str} (p : Pu te σ D v) (tv : (tyO C fts).p v D) (c : Cls K C) (n : NoAttr K C f) (hf : Has fts f t) : ∃ w, Pu (tFld K te f) σ D w ∧ t.p w D := by
  obtain ⟨a, dx, fs, rfl, ha, hv⟩ := tv
  obtain ⟨w, h1, h2⟩ := fld_at hv hf
  exact ⟨w, fun H k Q q => p H k _ ⟨a, C, dx, fs, w, rfl, k.fx (u := .ins C dx fs) True.intro ha, c, n, h1, q⟩, h2⟩
theorem pu_ixT {i : Int} (p : Pu te σ D v) (tv : (tyT ts).p v D) (h : atI ts i = some t) : ∃ w, Pu (tOp (rIxT K) te (tC (.int i))) σ D w ∧ t.p w D := by
  obtain ⟨a, vs, rfl, ha, hv⟩ := tv
  obtain ⟨w, h1, h2⟩ := at_pr hv h
  exact ⟨w, fun H k Q q => p H k _ ⟨a, vs, i, w, rfl, rfl, SqT.of (k.fx (u := .tup vs) True.intro ha), h1, q⟩, h2⟩
theorem pu_dget {kts : List (Key × Ty)} {k : Key} (p : Pu td σ D v) (tv : (tyD kts).p v D) (pk : Pu tk σ D (kV k)) (h : Has kts k t) : ∃ w, Pu (tDGet td tk) σ D w ∧ t.p w D := by
  obtain ⟨a, kvs, rfl, ha, hv⟩ := tv
  obtain ⟨w, e1, e2⟩ := (lookup_at hv k).1 t h
  exact ⟨w, fun H q1 Q q => p H q1 _ (pk H q1 _ ⟨a, w, rfl, .inl ⟨kvs, k, q1.sf (u := .dK kvs) True.intro ha, rfl, e1.symm⟩, q⟩), e2⟩
theorem pu_dgetT {kts : List (List Key × Ty)} {k : List Key} {kv : V} (p : Pu td σ D v) (tv : (tyE kts).p v D) (pk : Pu tk σ D kv) (tk' : (tyT (k.map fun x => tyV (kV x))).p kv D) (h : Has kts k t) : ∃ w, Pu (tDGet td tk) σ D w ∧ t.p w D := by
  obtain ⟨a, kvs, rfl, ha, hv⟩ := tv
  obtain ⟨b, vs, rfl, hb, hw⟩ := tk'
  have e0 : vs = k.map kV := all_flat (by rw [List.map_map]; exact hw)
  subst e0
  obtain ⟨w, e1, e2⟩ := (lookup_at hv k).1 t h
  exact ⟨w, fun H q1 Q q => p H q1 _ (pk H q1 _ ⟨a, w, rfl, .inr ⟨kvs, k, b, q1.sf (u := .dT kvs) True.intro ha, rfl, q1.fx (u := .tup _) True.intro hb, e1.symm⟩, q⟩), e2⟩

/-! ### locks -/
theorem kq_lock {d : Addr} {od : Obj} {x : HO} (sx : Soft x) (h : D d = some x) : Kq D (upd D d (.frz od x)) := by
  refine ⟨fun {a u} f e => ?_, fun {a u} s r => ?_⟩
  · have : a ≠ d := fun z => by
      subst z
      rw [h] at e
      cases e
      cases x <;> first | exact sx.elim | exact f.elim
    rw [upd_ne this]
    exact e
  · by_cases c : a = d
    · subst c
      refine .inr ⟨od, ?_⟩
      rw [upd_same]
      rcases r with r | ⟨o, r⟩
      · rw [h] at r
        cases r
        rfl
      · rw [h] at r
        cases r
        exact sx.elim
    · unfold Rd
      rw [upd_ne c]
      exact r
theorem kq_unlock {d : Addr} {od : Obj} {x : HO} (sx : Soft x) (h : D d = some (.frz od x)) : Kq D (upd D d x) := by
  refine ⟨fun {a u} f e => ?_, fun {a u} s r => ?_⟩
  · have : a ≠ d := fun z => by
      subst z
      rw [h] at e
      cases e
      exact f.elim
    rw [upd_ne this]
    exact e
  · by_cases c : a = d
    · subst c
      refine .inl ?_
      rw [upd_same]
      rcases r with r | ⟨o, r⟩
      · rw [h] at r
        cases r
        exact s.elim
      · rw [h] at r
        cases r
        rfl
    · unfold Rd
      rw [upd_ne c]
      exact r
theorem upd_back {d : Addr} {x y : HO} (h : D d = some x) : upd (upd D d y) d x = D := by
  funext a
  by_cases c : a = d
  · rw [c, upd_same, h]
  · rw [upd_ne c, upd_ne c]
theorem unlock {D2 H2 : Hp} {d : Addr} {od : Obj} {x : HO} (sx : Soft x) (hD : D d = some x) (hH : H d = some x) (g : Grow (upd D d (.frz od x)) (upd H d (.frz od x)) D2 H2) :
    H2 d = some (.frz od x) ∧ D2 d = some (.frz od x) ∧ Grow D H (upd D2 d x) (upd H2 d x) ∧ Kq D2 (upd D2 d x) := by
  have h1 : H2 d = some (.frz od x) := g.h.nl.mp upd_same
  have h2 : D2 d = some (.frz od x) := g.d.nl.mp upd_same
  refine ⟨h1, h2, ⟨?_, g.dh.both, ?_, fun {a w} e f m => ?_⟩, kq_unlock sx h2⟩
  · have := g.d.both (p := d) (o := x)
    rw [upd_back hD] at this
    exact this
  · have := g.h.both (p := d) (o := x)
    rw [upd_back hH] at this
    exact this
  · have ne : a ≠ d := fun z => by
      rw [z, hD] at e
      cases e
    rw [upd_ne ne]
    exact g.new (by rw [upd_ne ne]; exact e) (by rw [upd_ne ne]; exact f) m
theorem soft_mut {x : HO} (s : Soft x) : Mut (some x) := by
  cases x <;> first | exact s.elim | exact True.intro
theorem ev_lock {d : Addr} {x : HO} (hd : D d = some x) (sx : Soft x) (e : ∀ od, Kq D (upd D d (.frz od x)) → Ev te σ (upd D d (.frz od x)) t) : Ev (tLockE te) σ D t := fun D1 H k h Q q => by
  have d1 := k.exact sx hd
  have h1 := h.exact sx d1
  refine ⟨d, x, h1, soft_mut sx, fun od => ?_⟩
  refine e od (kq_lock sx hd) _ _ k.both h.both _ fun v D2 H2 g tv => ?_
  obtain ⟨z1, z2, z3, z4⟩ := unlock sx d1 h1 g
  exact ⟨z1, q v _ _ z3 (t.up z4 tv)⟩
/-- a statement under a lock -/
def LkE (d : Addr) (od : Obj) (u : HO) (E : Ends) : Ends := ⟨fun σ' H' => H' d = some (.frz od u) ∧ E.nx σ' (upd H' d u), fun v H' => H' d = some (.frz od u) ∧ E.rt v (upd H' d u), fun σ' H' => H' d = some (.frz od u) ∧ E.bk σ' (upd H' d u), fun σ' H' => H' d = some (.frz od u) ∧ E.ct σ' (upd H' d u)⟩
theorem st_lock {ts : TS} {E : Ends} {d : Addr} {x : HO} (hd : D d = some x) (sx : Soft x) (k : Kp D H) (h : ∀ od, Kq D (upd D d (.frz od x)) → Kp (upd D d (.frz od x)) (upd H d (.frz od x)) → ts (LkE d od x E) σ (upd H d (.frz od x))) : tLock ts E σ H :=
  ⟨d, x, k.exact sx hd, soft_mut sx, fun od => h od (kq_lock sx hd) k.both⟩

/-! ### walks over locked dicts -/
theorem kv_at {κ : Type} {kts : List (κ × Ty)} {kvs : List (κ × V)} (h : KvsAt kts kvs D) {i : Nat} {k : κ} {v : V} (e : kvs[i]? = some (k, v)) : ∃ t, kts[i]? = some (k, t) ∧ t.p v D := by
  induction h generalizing i with
  | nil => simp at e
  | @cons p q ps qs r _ ih =>
    cases i with
    | zero =>
      simp at e
      subst e
      obtain ⟨q1, q2⟩ := q
      have r1 : k = q1 := r.1
      subst r1
      exact ⟨q2, rfl, r.2⟩
    | succ i => exact ih (i := i) (by simpa using e)
theorem evi_keys {d : Addr} {o : Obj} {kvs : List (Key × V)} {kts : List (Key × Ty)} (p : Pu td σ D (.ref d)) (hd : D d = some (.frz o (.dK kvs))) (hv : KvsAt kts kvs D) : EvI0 (iKeys td) σ D (kts.map fun x => tyV (kV x.1)) := fun D1 H k h R q =>
  p H (k.trans h).q _ ⟨d, o, rfl, .inl ⟨kvs, (k.trans h).nl.mp hd, q _ D1 H (Grow.refl h) (by
    have l : kvs.length = kts.length := pr_len hv
    refine ⟨fun i H3 k3 hi => ⟨(k.trans k3).nl.mp hd, ?_⟩, fun H3 k3 => ⟨(k.trans k3).nl.mp hd, ?_⟩, fun i t D3 H3 y H4 k3 h3 e y4 => ?_⟩
    · rw [List.length_map] at hi
      omega
    · rw [List.length_map]
      omega
    · obtain ⟨e1, kk, vv, e2, e3⟩ := y4
      obtain ⟨t', e4, _⟩ := kv_at hv e2
      rw [List.getElem?_map, e4] at e
      cases e
      exact ⟨e1, e3⟩)⟩⟩
theorem evi_vals {d : Addr} {o : Obj} {kvs : List (Key × V)} {kts : List (Key × Ty)} (p : Pu td σ D (.ref d)) (hd : D d = some (.frz o (.dK kvs))) (hv : KvsAt kts kvs D) : EvI0 (iVals td) σ D (kts.map fun x => x.2) := fun D1 H k h R q =>
  p H (k.trans h).q _ ⟨d, o, kvs, rfl, (k.trans h).nl.mp hd, q _ D1 H (Grow.refl h) (by
    have l : kvs.length = kts.length := pr_len hv
    refine ⟨fun i H3 k3 hi => ⟨(k.trans k3).nl.mp hd, ?_⟩, fun H3 k3 => ⟨(k.trans k3).nl.mp hd, ?_⟩, fun i t D3 H3 y H4 k3 h3 e y4 => ?_⟩
    · rw [List.length_map] at hi
      omega
    · rw [List.length_map]
      omega
    · obtain ⟨e1, kk, e2⟩ := y4
      obtain ⟨t', e4, e5⟩ := kv_at hv e2
      rw [List.getElem?_map, e4] at e
      cases e
      exact ⟨e1, t'.up (k.trans k3).q e5⟩)⟩
theorem evi_items {d : Addr} {o : Obj} {kvs : List (Key × V)} {kts : List (Key × Ty)} (p : Pu td σ D (.ref d)) (hd : D d = some (.frz o (.dK kvs))) (hv : KvsAt kts kvs D) : EvI (iItems td) σ D (kts.map fun x => tyT [tyV (kV x.1), x.2]) := fun D1 H k h R q =>
  p H (k.trans h).q _ ⟨d, o, kvs, rfl, (k.trans h).nl.mp hd, q _ D1 H (Grow.refl h) (by
    have l : kvs.length = kts.length := pr_len hv
    refine ⟨fun i H3 k3 hi => ⟨(k.trans k3).nl.mp hd, ?_⟩, fun H3 k3 => ⟨(k.trans k3).nl.mp hd, ?_⟩, fun i t D3 H3 y H4 k3 h3 e y4 => ?_⟩
    · rw [List.length_map] at hi
      omega
    · rw [List.length_map]
      omega
    · obtain ⟨T, kk, vv, e2, rfl, hT, rfl⟩ := y4
      obtain ⟨t', e4, e5⟩ := kv_at hv e2
      rw [List.getElem?_map, e4] at e
      cases e
      refine ⟨upd D3 T (.tup [kV kk, vv]), (Grow.refl h3).add hT (.inl True.intro), T, [kV kk, vv], rfl, upd_same, ?_⟩
      have nn := h3.dom hT
      exact .cons rfl (.cons (t'.up ((k.trans k3).trans (Kp.new nn (nofz_of (.inl (show Fixd (.tup _) from True.intro))))).q e5) .nil))⟩
theorem evi_keysT {d : Addr} {o : Obj} {kvs : List (List Key × V)} {kts : List (List Key × Ty)} (p : Pu td σ D (.ref d)) (hd : D d = some (.frz o (.dT kvs))) (hv : KvsAt kts kvs D) : EvI (iKeys td) σ D (kts.map fun x => tyT (x.1.map fun y => tyV (kV y))) := fun D1 H k h R q =>
  p H (k.trans h).q _ ⟨d, o, rfl, .inr ⟨kvs, (k.trans h).nl.mp hd, q _ D1 H (Grow.refl h) (by
    have l : kvs.length = kts.length := pr_len hv
    refine ⟨fun i H3 k3 hi => ⟨(k.trans k3).nl.mp hd, ?_⟩, fun H3 k3 => ⟨(k.trans k3).nl.mp hd, ?_⟩, fun i t D3 H3 y H4 k3 h3 e y4 => ?_⟩
    · rw [List.length_map] at hi
      omega
    · rw [List.length_map]
      omega
    · obtain ⟨rfl, kk, vv, T, e2, rfl, hT⟩ := y4
      obtain ⟨t', e4, e5⟩ := kv_at hv e2
      rw [List.getElem?_map, e4] at e
      cases e
      obtain ⟨D5, g5, k5, s5⟩ := (Grow.refl h3).seen hT
      refine ⟨D5, g5, T, _, rfl, s5, ?_⟩
      show TysAt (kk.map fun y => tyV (kV y)) (kk.map kV) D5
      have := tysAt_of (xs := kk.map kV) (H := D5)
      rw [List.map_map] at this
      exact this)⟩⟩

/-! ### loops: D0, H0 as the def was entered -/
def StN (D0 H0 B : Hp) (I : Sl → Hp → Hp → Prop) : Sl → Hp → Prop := fun s H => ∃ D, Kp B D ∧ Grow D0 H0 D H ∧ I s D H
/-- a statement's ends within a loop -/
abbrev LoE (E : Ends) (N : Sl → Hp → Prop) : Ends := { E with nx := N, ct := N, bk := E.nx }
theorem st_for {α : Type} {wi : TI} {g : TG} {tb : TS} {E : Ends} {xs : List α} {D0 H0 : Hp} (τ : α → Ty) (I : Nat → Sl → Hp → Hp → Prop) (mono : ∀ {i s D1 H1 D2 H2}, I i s D1 H1 → Grow D1 H1 D2 H2 → I i s D2 H2)
    (hi : EvI wi σ D (xs.map τ)) (k : Grow D0 H0 D H) (h0 : ∀ D1 H1, Grow D H D1 H1 → I 0 σ D1 H1)
    (hs : ∀ B, Kp D B → ∀ i a, xs[i]? = some a → ∀ s D1 H1 x, Kp B D1 → Grow D0 H0 D1 H1 → I i s D1 H1 → (τ a).p x D1 → g x s H1 fun s2 H2 => tb (LoE E (StN D0 H0 B (I (i + 1)))) s2 H2)
    (hf : ∀ s D1 H1, Kp D D1 → Grow D0 H0 D1 H1 → I xs.length s D1 H1 → E.nx s H1) : tFor wi g tb E σ H := by
  refine hi D H (Kp.refl D) k.dh _ fun J D1 H1 g1 w => ?_
  refine ⟨fun i m s H' => m = xs.length - i ∧ i ≤ xs.length ∧ StN D0 H0 D1 (I i) s H', ⟨xs.length, by simp, Nat.zero_le _, D1, Kp.refl _, k.trans g1, h0 D1 H1 g1⟩, ?_⟩
  rintro i m s H' ⟨rfl, hi3, D', k1, kh, inv⟩
  by_cases hlt : i < xs.length
  · have hg : xs[i]? = some xs[i] := by simp [hlt]
    have hm : (xs.map τ)[i]? = some (τ xs[i]) := by rw [List.getElem?_map, hg]; rfl
    refine .inr ⟨w.goes i H' (k1.trans kh.dh) (by rw [List.length_map]; exact hlt), StN D0 H0 D1 (I (i + 1)), fun s' H'' c => ⟨xs.length - (i + 1), by omega, rfl, hlt, c⟩, fun x H'' y => ?_⟩
    obtain ⟨D2, g2, tx⟩ := w.yld i _ D' H' x H'' k1 kh.dh hm y
    exact hs D1 g1.d i _ hg s D2 H'' x (k1.trans g2.d) (kh.trans g2) (mono inv g2) tx
  · have e : i = xs.length := by omega
    subst e
    have st := w.stops H' (k1.trans kh.dh)
    rw [List.length_map] at st
    exact .inl ⟨st, hf s D' H' (g1.d.trans k1) kh inv⟩
/-- what a while's test is asked for -/
def WhQ (E : Ends) (D0 H0 D : Hp) (I : Nat → Sl → Hp → Hp → Prop) (tb : TS) (m : Nat) (s : Sl) : Bool → Hp → Prop := fun b H => if b = true then ∃ N : Sl → Hp → Prop, (∀ s' H', N s' H' → ∃ m', m' < m ∧ StN D0 H0 D (I m') s' H') ∧ tb (LoE E N) s H else E.nx s H
theorem st_while {tc : TT} {tb : TS} {E : Ends} {D0 H0 : Hp} (I : Nat → Sl → Hp → Hp → Prop) (k : Grow D0 H0 D H) (m0 : Nat) (h0 : I m0 σ D H)
    (ht : ∀ m s D1 H1, Kp D D1 → Grow D0 H0 D1 H1 → I m s D1 H1 → tc s H1 (WhQ E D0 H0 D I tb m s)) : tWhile tc tb E σ H := by
  refine ⟨fun m s H' => StN D0 H0 D (I m) s H', ⟨m0, D, Kp.refl _, k, h0⟩, ?_⟩
  rintro m s H' ⟨D1, k1, kh, inv⟩
  exact ht m s D1 H' k1 kh inv
theorem whq_t {tb : TS} {E : Ends} {D0 H0 : Hp} {I : Nat → Sl → Hp → Hp → Prop} {m : Nat} {b : Bool} (e : b = true) (h : tb (LoE E fun s' H' => ∃ m', m' < m ∧ StN D0 H0 D (I m') s' H') σ H) : WhQ E D0 H0 D I tb m σ b H := by
  subst e
  exact iteT ⟨_, fun _ _ z => z, h⟩
theorem whq_f {tb : TS} {E : Ends} {D0 H0 : Hp} {I : Nat → Sl → Hp → Hp → Prop} {m : Nat} {b : Bool} (e : b = false) (h : E.nx σ H) : WhQ E D0 H0 D I tb m σ b H := by
  subst e
  exact iteF h

/-! ### things that are changed where they stand: not data, in the heap -/
def Fre : HO → Prop
  | .lst _ => True
  | .ins _ _ _ => True
  | .dK _ => True
  | .dT _ => True
  | .ext _ => True
  | _ => False
structure Loc (l : Addr) (u : HO) (D H : Hp) : Prop where
  d : D l = none
  h : H l = some u
theorem Loc.grow {l : Addr} {x : HO} {D2 H2 : Hp} (f : Fre x) (c : Loc l x D H) (g : Grow D H D2 H2) : Loc l x D2 H2 := by
  have hm : Mu x := by cases x <;> first | exact f.elim | exact True.intro
  refine ⟨g.new c.d c.h hm, ?_⟩
  cases x with
  | lst y => exact g.h.q.fx (u := .lst y) True.intro c.h
  | ins C dx fs => exact g.h.q.fx (u := .ins C dx fs) True.intro c.h
  | dK y => exact g.h.exact (u := .dK y) True.intro c.h
  | dT y => exact g.h.exact (u := .dT y) True.intro c.h
  | ext y => exact g.h.exact (u := .ext y) True.intro c.h
  | _ => exact f.elim
/-- it is changed -/
theorem Loc.put {l : Addr} {x y : HO} (c : Loc l x D H) : Loc l y D (upd H l y) := ⟨c.d, upd_same⟩
/-- another is changed -/
theorem Loc.off {l m : Addr} {x y : HO} (c : Loc l x D H) (n : l ≠ m) : Loc l x D (upd H m y) := ⟨c.d, by rw [upd_ne n]; exact c.h⟩
theorem Loc.kp {l : Addr} {x y : HO} (c : Loc l x D H) (k : Kp D H) (f : NoFz y) : Kp D (upd H l y) := k.put c.d f
theorem Loc.ne {l m : Addr} {x y : HO} (c : Loc l x D H) (e : Loc m y D H) (n : x ≠ y) : l ≠ m := fun z => by
  subst z
  have := c.h
  rw [e.h] at this
  exact n (Option.some.inj this).symm
/-- a thing just made is not one that stood -/
theorem Loc.new {p : Addr} {y : HO} (k : Kp D H) (n : H p = none) : Loc p y D (upd H p y) := ⟨k.dom n, upd_same⟩
theorem Loc.ne_new {l p : Addr} {x : HO} (c : Loc l x D H) (n : H p = none) : l ≠ p := ne_of_none c.h n
/-- it is data from now on -/
theorem Loc.own {l : Addr} {x : HO} {D0 H0 : Hp} (c : Loc l x D H) (g : Grow D0 H0 D H) (n : H0 l = none) (f : Fixd x ∨ Soft x) : Grow D0 H0 (upd D l x) H ∧ Kp D (upd D l x) := ⟨g.own n c.d c.h f, Kp.new c.d (nofz_of f)⟩
/-- it was changed -/
theorem Loc.set {l : Addr} {x y : HO} {D0 H0 : Hp} (c : Loc l x D H) (g : Grow D0 H0 D H) (n : H0 l = none) (f : NoFz y) : Grow D0 H0 D (upd H l y) := g.mut n c.d f
/-- l.append(e) -/
theorem ev_append {i : Nat} {l : Addr} {acc : List V} {E : Ends} (hl : σ[i]? = some (some (.ref l))) (c : Loc l (.lst acc) D H) (e : Ev te σ D t) (k : Kp D H) (z : acc.length < 100000)
    (q : ∀ v D1 H1, Grow D H D1 H1 → t.p v D1 → Loc l (.lst acc) D1 H1 → E.nx σ (upd H1 l (.lst (acc ++ [v])))) : tDrop (tBM K "list" rAppend (tVar i) (tCons te tNil)) E σ H :=
  ⟨.ref l, hl, .inl ⟨rfl, acc, SqL.of c.h⟩, e.use k fun v D1 H1 g tv => ⟨l, acc, v, rfl, rfl, (c.grow (x := .lst acc) True.intro g).h, Nat.lt_of_lt_of_le z (by decide), q v D1 H1 g tv (c.grow (x := .lst acc) True.intro g)⟩⟩
end
end K02
set_option Elab.async false
set_option linter.all false
set_option maxRecDepth 100000
set_option maxHeartbeats 4000000
/-! Data at any depth: ==, !=, in. -/
namespace K02
open PySem PySem.Spec PyProof.Rows L2
/-- a value of this type is this data -/
def IsDp (K : PySem.W.Frag) (t : Ty) (d : PyData) : Prop := ∀ v D H, Kp D H → t.p v D → Dp K H v d
section
variable {K : PySem.W.Frag} {σ : Sl} {D D' H : Hp} {te ta tk td : TE} {tt : TT} {t u : Ty} {ts : List Ty} {v : V}
theorem dp_int {i : Int} : IsDp K (tyI i) (.int i) := fun v D H k h => by
  have h : v = .int i := h
  subst h
  exact .int i
theorem dp_str {s : Str} : IsDp K (tyS s) (.str s) := fun v D H k h => by
  have h : v = .str s := h
  subst h
  exact .str s
theorem dpAll {α : Type} {f : α → Ty} {g : α → PyData} (hd : ∀ a, IsDp K (f a) (g a)) (k : Kp D H) : ∀ {xs : List α} {vs : List V}, TysAt (xs.map f) vs D → DpAll K H vs (xs.map g)
  | [], _, h => by
    cases h
    exact .nil
  | a :: r, _, h => by
    rw [List.map_cons] at h ⊢
    cases h with
    | cons h1 h2 => exact .cons (hd a _ D H k h1) (dpAll hd k h2)
theorem dp_tup {α : Type} {f : α → Ty} {g : α → PyData} {xs : List α} (hd : ∀ a, IsDp K (f a) (g a)) : IsDp K (tyT (xs.map f)) (.tuple (xs.map g)) := fun v D H k h => by
  obtain ⟨a, vs, rfl, ha, hv⟩ := h
  exact .tup (SqT.of (k.q.fx (u := .tup vs) True.intro ha)) (dpAll hd k hv)
theorem dp_lst {α : Type} {f : α → Ty} {g : α → PyData} {xs : List α} (hd : ∀ a, IsDp K (f a) (g a)) : IsDp K (tyL (xs.map f)) (.list (xs.map g)) := fun v D H k h => by
  obtain ⟨a, vs, rfl, ha, hv⟩ := h
  exact .lst (SqL.of (k.q.fx (u := .lst vs) True.intro ha)) (dpAll hd k hv)
theorem dp_tup1 {d : PyData} (h : IsDp K t d) : IsDp K (tyT [t]) (.tuple [d]) := dp_tup (xs := [()]) (f := fun _ => t) (g := fun _ => d) fun _ => h
theorem dp_tup2 {d e : PyData} (h1 : IsDp K t d) (h2 : IsDp K u e) : IsDp K (tyT [t, u]) (.tuple [d, e]) := fun v D H k h => by
  obtain ⟨a, vs, rfl, ha, hv⟩ := h
  cases hv with
  | cons r1 r2 =>
    cases r2 with
    | cons r2 r3 =>
      cases r3
      exact .tup (SqT.of (k.q.fx (u := .tup _) True.intro ha)) (.cons (h1 _ D H k r1) (.cons (h2 _ D H k r2) .nil))
theorem dp_tup3 {z : Ty} {d e f : PyData} (h1 : IsDp K t d) (h2 : IsDp K u e) (h3 : IsDp K z f) : IsDp K (tyT [t, u, z]) (.tuple [d, e, f]) := fun v D H k h => by
  obtain ⟨a, vs, rfl, ha, hv⟩ := h
  cases hv with
  | cons r1 r2 =>
    cases r2 with
    | cons r2 r3 =>
      cases r3 with
      | cons r3 r4 =>
        cases r4
        exact .tup (SqT.of (k.q.fx (u := .tup _) True.intro ha)) (.cons (h1 _ D H k r1) (.cons (h2 _ D H k r2) (.cons (h3 _ D H k r3) .nil)))
theorem rv_eqD {d e : PyData} (h1 : IsDp K t d) (h2 : IsDp K u e) (s1 : SeqAt.shaped d = true) (s2 : SeqAt.shaped e = true) : RV (rEqD K) t u (tyB (PyData.eqv d e)) := fun x y D H k hx hy Q q =>
  ⟨d, e, h1 x D H k hx, h2 y D H k hy, s1, s2, q _ D H (Grow.refl k) rfl⟩
theorem rv_neD {d e : PyData} (h1 : IsDp K t d) (h2 : IsDp K u e) (s1 : SeqAt.shaped d = true) (s2 : SeqAt.shaped e = true) : RV (rNeD K) t u (tyB (!PyData.eqv d e)) := fun x y D H k hx hy Q q =>
  ⟨d, e, h1 x D H k hx, h2 y D H k hy, s1, s2, q _ D H (Grow.refl k) rfl⟩
theorem rv_inD {d : PyData} {ds : List PyData} (h1 : IsDp K t d) (h2 : IsDp K u (.list ds)) (s1 : SeqAt.shaped d = true) (s2 : SeqAt.shaped (.list ds) = true) : RV (rInD K) t u (tyB (ds.any fun z => PyData.eqv z d)) := fun x y D H k hx hy Q q =>
  ⟨d, ds, h1 x D H k hx, h2 y D H k hy, s1, s2, q _ D H (Grow.refl k) rfl⟩
theorem eqvAll_nil : ∀ ds : List PyData, PyData.eqvAll ds [] = ds.isEmpty
  | [] => rfl
  | _ :: _ => rfl
theorem rv_notInD {d : PyData} {ds : List PyData} (h1 : IsDp K t d) (h2 : IsDp K u (.list ds)) (s1 : SeqAt.shaped d = true) (s2 : SeqAt.shaped (.list ds) = true) : RV (rNotInD K) t u (tyB (!ds.any fun z => PyData.eqv z d)) := fun x y D H k hx hy Q q =>
  ⟨d, ds, h1 x D H k hx, h2 y D H k hy, s1, s2, q _ D H (Grow.refl k) rfl⟩
/-- l != [] of a list that may change -/
theorem ne_nil {α : Type} {f : α → Ty} {g : α → PyData} {xs : List α} {i : Nat} {l : Addr} {acc : List V} {Q : Bool → Hp → Prop} (hd : ∀ a, IsDp K (f a) (g a)) (hl : σ[i]? = some (some (.ref l))) (c : Loc l (.lst acc) D H) (k : Kp D H) (tv : TysAt (xs.map f) acc D)
    (s : SeqAt.shaped (.list (xs.map g)) = true) (q : ∀ D1 H1, Grow D H D1 H1 → Q (!xs.isEmpty) H1) : tTest (tOp (rNeD K) (tVar i) (tLst tNil)) σ H Q := by
  refine ⟨.ref l, hl, Nat.zero_le _, fun p hp => ?_⟩
  have g2 := (Grow.refl k).add (u := .lst []) hp (.inl True.intro)
  have c2 := c.grow (x := .lst acc) True.intro g2
  refine ⟨.list (xs.map g), .list [], .lst (SqL.of c2.h) (dpAll hd g2.dh (TysAt.up g2.d.q tv)), .lst (SqL.of upd_same) .nil, s, by decide +kernel, _, rfl, ?_⟩
  have e : (!PyData.eqv (.list (xs.map g)) (.list [])) = !xs.isEmpty := by
    show (!PyData.eqvAll (xs.map g) []) = _
    rw [eqvAll_nil, List.isEmpty_map]
  rw [e]
  exact q _ _ g2
/-- the last of a list that may change -/
theorem last_at {α : Type} {f : α → Ty} {xs : List α} {acc : List V} {a : α} (tv : TysAt (xs.map f) acc D) (e : xs.getLast? = some a) : ∃ v, atI acc (-1) = some v ∧ (f a).p v D := by
  refine at_pr tv (i := -1) ?_
  have hn : xs ≠ [] := fun z => by
    subst z
    cases e
  have hl : 0 < xs.length := List.length_pos_iff.mpr hn
  unfold atI ixN
  rw [List.length_map, if_neg (by decide), if_pos (by omega)]
  show (xs.map f)[((-1 : Int) + xs.length).toNat]? = _
  have e2 : ((-1 : Int) + xs.length).toNat = xs.length - 1 := by omega
  rw [e2, List.getElem?_map, ← List.getLast?_eq_getElem?, e]
  rfl
theorem rv_to {r : R2} {a b t u : Ty} (e : t = u) (h : RV r a b t) : RV r a b u := e ▸ h
theorem rv_le {i j : Int} {b : Bool} (h : decide (i ≤ j) = b) : RV (rI0 fun i j => .bl (decide (i ≤ j))) (tyI i) (tyI j) (tyB b) := h ▸ rv_I0
theorem rv_lt {i j : Int} {b : Bool} (h : decide (i < j) = b) : RV (rI0 fun i j => .bl (decide (i < j))) (tyI i) (tyI j) (tyB b) := h ▸ rv_I0
theorem rv_gt {i j : Int} {b : Bool} (h : decide (j < i) = b) : RV (rI0 fun i j => .bl (decide (j < i))) (tyI i) (tyI j) (tyB b) := h ▸ rv_I0
theorem rv_neI {i j : Int} {b : Bool} (h : (!decide (i = j)) = b) : RV rNe (tyI i) (tyI j) (tyB b) := rv_to (by rw [← h]; simp) (rv_ne rfl)
theorem rv_eqI {i j : Int} {b : Bool} (h : decide (i = j) = b) : RV rEq (tyI i) (tyI j) (tyB b) := rv_to (by rw [← h]; simp) (rv_eq rfl)
/-! ### statements -/
theorem st_ifF {c : TT} {a b : TS} {E : Ends} (e : EvB c σ D false) (k : Kp D H) (h : ∀ D1 H1, Grow D H D1 H1 → b E σ H1) : tIfS c a b E σ H := e.use k fun D1 H1 g => iteF (h D1 H1 g)
theorem st_ifT {c : TT} {a b : TS} {E : Ends} (e : EvB c σ D true) (k : Kp D H) (h : ∀ D1 H1, Grow D H D1 H1 → a E σ H1) : tIfS c a b E σ H := e.use k fun D1 H1 g => iteT (h D1 H1 g)
theorem sq_ifF {c : TT} {a b u : TS} {E : Ends} (e : EvB c σ D false) (k : Kp D H) (h : ∀ D1 H1, Grow D H D1 H1 → b { E with nx := u E } σ H1) : tSeq (tIfS c a b) u E σ H := e.use k fun D1 H1 g => iteF (h D1 H1 g)
theorem sq_ifN {c : TT} {a u : TS} {E : Ends} (e : EvB c σ D false) (k : Kp D H) (h : ∀ D1 H1, Grow D H D1 H1 → u E σ H1) : tSeq (tIfS c a tNext) u E σ H := e.use k fun D1 H1 g => iteF (h D1 H1 g)
theorem st_ifN {c : TT} {a : TS} {E : Ends} (e : EvB c σ D false) (k : Kp D H) (h : ∀ D1 H1, Grow D H D1 H1 → E.nx σ H1) : tIfS c a tNext E σ H := e.use k fun D1 H1 g => iteF (h D1 H1 g)
theorem sq_ifT {c : TT} {a b u : TS} {E : Ends} (e : EvB c σ D true) (k : Kp D H) (h : ∀ D1 H1, Grow D H D1 H1 → a { E with nx := u E } σ H1) : tSeq (tIfS c a b) u E σ H := e.use k fun D1 H1 g => iteT (h D1 H1 g)
theorem st_ret {E : Ends} (e : Ev te σ D t) (k : Kp D H) (h : ∀ v D1 H1, Grow D H D1 H1 → t.p v D1 → E.rt v H1) : tRet te E σ H := e.use k h
theorem st_asg {E : Ends} {i : Nat} (e : Ev te σ D t) (k : Kp D H) (h : ∀ v D1 H1, Grow D H D1 H1 → t.p v D1 → E.nx (σ.set i (some v)) H1) : tAsg te (gName i) E σ H := e.use k h
theorem sq_asg {E : Ends} {i : Nat} {u : TS} (e : Ev te σ D t) (k : Kp D H) (h : ∀ v D1 H1, Grow D H D1 H1 → t.p v D1 → u E (σ.set i (some v)) H1) : tSeq (tAsg te (gName i)) u E σ H := e.use k h
theorem st_drop {E : Ends} (e : Ev te σ D t) (k : Kp D H) (h : ∀ D1 H1, Grow D H D1 H1 → E.nx σ H1) : tDrop te E σ H := e.use k fun _ D1 H1 g _ => h D1 H1 g
theorem sq_drop {E : Ends} {u : TS} (e : Ev te σ D t) (k : Kp D H) (h : ∀ D1 H1, Grow D H D1 H1 → u E σ H1) : tSeq (tDrop te) u E σ H := e.use k fun _ D1 H1 g _ => h D1 H1 g
/-- a, b = e -/
theorem ga_2 {i j : Nat} {v : V} {t u : Ty} {Q : Sl → Hp → Prop} (k : Kp D H) (tv : (tyT [t, u]).p v D) (q : ∀ x y, t.p x D → u.p y D → Q ((σ.set i (some x)).set j (some y)) H) : gTup K 2 (gCons (gName i) (gCons (gName j) gNil)) v σ H Q := by
  obtain ⟨a, vs, rfl, ha, hv⟩ := tv
  obtain _ | ⟨h0, hv⟩ := hv
  obtain _ | ⟨h1, hv⟩ := hv
  cases hv
  exact ⟨a, _, rfl, SqT.of (k.q.fx (u := .tup _) True.intro ha), rfl, _, _, rfl, _, _, rfl, rfl, q _ _ h0 h1⟩
/-! ### defs that lock dicts -/
def SpN {α : Type} (A : α → List Ty) (B : α → Ty) (C : α → Prop) : Sp := fun vs H Q _ => ∃ x D, C x ∧ NoLk D ∧ Kp D H ∧ TysAt (A x) vs D ∧ ∀ v D' H', Grow D H D' H' → (B x).p v D' → Q v H'
theorem SpN.len {α : Type} {A : α → List Ty} {B : α → Ty} {C : α → Prop} {n : Nat} (hn : ∀ x, (A x).length = n) {vs : List V} {H : Hp} {Q : VK} {E : XK} (h : SpN A B C vs H Q E) : vs.length = n := by
  obtain ⟨x, D, _, _, _, h, _⟩ := h
  rw [pr_len h, hn]
theorem ev_callN {α : Type} {A : α → List Ty} {B : α → Ty} {C : α → Prop} {E : XK} {ta : TA} (x : α) (c : C x) (n : NoLk D) (e : EvA ta σ D (A x)) : Ev (tCall (SpN A B C) [] E ta) σ D (B x) := fun D1 H k h Q q =>
  e D1 H k h _ fun vs D2 H2 g2 tv => by
    rw [List.append_nil]
    exact ⟨x, D2, c, n.up (k.trans g2.d), g2.dh, tv, fun v D3 H3 g3 tb => q v D3 H3 (g2.trans g3) tb⟩
/-- a dict that is not locked -/
theorem tyD_at {kts : List (Key × Ty)} (n : NoLkK D) (tv : (tyD kts).p v D) : ∃ d kvs, v = .ref d ∧ D d = some (.dK kvs) ∧ KvsAt kts kvs D := by
  obtain ⟨d, kvs, e, h, r⟩ := tv
  exact ⟨d, kvs, e, n.rd h, r⟩
theorem tyE_at {kts : List (List Key × Ty)} (n : NoLk D) (tv : (tyE kts).p v D) : ∃ d kvs, v = .ref d ∧ D d = some (.dT kvs) ∧ KvsAt kts kvs D := by
  obtain ⟨d, kvs, e, h, r⟩ := tv
  exact ⟨d, kvs, e, n.rdT h, r⟩
/-- a walk over a dict's keys, its values, under a lock -/
theorem ev_lockK {kts : List (Key × Ty)} (n : NoLkK D) (p : Pu td σ D v) (tv : (tyD kts).p v D) (e : ∀ D1 d o kvs, Kq D D1 → v = .ref d → Pu td σ D1 (.ref d) → D1 d = some (.frz o (.dK kvs)) → KvsAt kts kvs D1 → Ev te σ D1 t) : Ev (tLockE te) σ D t := by
  obtain ⟨d, kvs, rfl, hd, hv⟩ := tyD_at n tv
  exact ev_lock hd True.intro fun od kq => e _ d od kvs kq rfl (p.up kq) upd_same (KvsAt.up kq hv)
theorem ev_lockT {kts : List (List Key × Ty)} (n : NoLk D) (p : Pu td σ D v) (tv : (tyE kts).p v D) (e : ∀ D1 d o kvs, Kq D D1 → NoLkK D1 → v = .ref d → Pu td σ D1 (.ref d) → D1 d = some (.frz o (.dT kvs)) → KvsAt kts kvs D1 → Ev te σ D1 t) : Ev (tLockE te) σ D t := by
  obtain ⟨d, kvs, rfl, hd, hv⟩ := tyE_at n tv
  exact ev_lock hd True.intro fun od kq => e _ d od kvs kq n.k.lkT rfl (p.up kq) upd_same (KvsAt.up kq hv)
end
end K02
set_option Elab.async false
set_option linter.all false
set_option maxRecDepth 100000
set_option maxHeartbeats 4000000
/-! The layer's rules with the fragment told by name (for what stands within comprehensions). -/
namespace K02
open PySem PySem.Spec PyProof.Rows L2
theorem bt_isinstance : bootBuiltins "isinstance" = some (.builtin "isinstance") := by decide +kernel
theorem bt_len : bootBuiltins "len" = some (.builtin "len") := by decide +kernel
theorem bt_all : bootBuiltins "all" = some (.builtin "all") := by decide +kernel
theorem bt_any : bootBuiltins "any" = some (.builtin "any") := by decide +kernel
theorem bt_sorted : bootBuiltins "sorted" = some (.builtin "sorted") := by decide +kernel
theorem bt_int : bootBuiltins "int" = some (.type "int") := by decide +kernel
theorem bt_bool : bootBuiltins "bool" = some (.type "bool") := by decide +kernel
theorem bt_str : bootBuiltins "str" = some (.type "str") := by decide +kernel
theorem bt_set : bootBuiltins "set" = some (.type "set") := by decide +kernel
theorem bt_tuple : bootBuiltins "tuple" = some (.type "tuple") := by decide +kernel
theorem bt_list : bootBuiltins "list" = some (.type "list") := by decide +kernel
theorem bt_dict : bootBuiltins "dict" = some (.type "dict") := by decide +kernel
theorem args1 {D : Hp} {t0 : Ty} {vs : List V} (h : TysAt [t0] vs D) : ∃ v0, vs = [v0] ∧ t0.p v0 D := by
  obtain _ | ⟨h0, h⟩ := h
  cases h
  exact ⟨_, rfl, h0⟩
theorem args2 {D : Hp} {t0 t1 : Ty} {vs : List V} (h : TysAt [t0, t1] vs D) : ∃ v0 v1, vs = [v0, v1] ∧ t0.p v0 D ∧ t1.p v1 D := by
  obtain _ | ⟨h0, h⟩ := h
  obtain _ | ⟨h1, h⟩ := h
  cases h
  exact ⟨_, _, rfl, h0, h1⟩
theorem args3 {D : Hp} {t0 t1 t2 : Ty} {vs : List V} (h : TysAt [t0, t1, t2] vs D) : ∃ v0 v1 v2, vs = [v0, v1, v2] ∧ t0.p v0 D ∧ t1.p v1 D ∧ t2.p v2 D := by
  obtain _ | ⟨h0, h⟩ := h
  obtain _ | ⟨h1, h⟩ := h
  obtain _ | ⟨h2, h⟩ := h
  cases h
  exact ⟨_, _, _, rfl, h0, h1, h2⟩
theorem args4 {D : Hp} {t0 t1 t2 t3 : Ty} {vs : List V} (h : TysAt [t0, t1, t2, t3] vs D) : ∃ v0 v1 v2 v3, vs = [v0, v1, v2, v3] ∧ t0.p v0 D ∧ t1.p v1 D ∧ t2.p v2 D ∧ t3.p v3 D := by
  obtain _ | ⟨h0, h⟩ := h
  obtain _ | ⟨h1, h⟩ := h
  obtain _ | ⟨h2, h⟩ := h
  obtain _ | ⟨h3, h⟩ := h
  cases h
  exact ⟨_, _, _, _, rfl, h0, h1, h2, h3⟩
theorem args5 {D : Hp} {t0 t1 t2 t3 t4 : Ty} {vs : List V} (h : TysAt [t0, t1, t2, t3, t4] vs D) : ∃ v0 v1 v2 v3 v4, vs = [v0, v1, v2, v3, v4] ∧ t0.p v0 D ∧ t1.p v1 D ∧ t2.p v2 D ∧ t3.p v3 D ∧ t4.p v4 D := by
  obtain _ | ⟨h0, h⟩ := h
  obtain _ | ⟨h1, h⟩ := h
  obtain _ | ⟨h2, h⟩ := h
  obtain _ | ⟨h3, h⟩ := h
  obtain _ | ⟨h4, h⟩ := h
  cases h
  exact ⟨_, _, _, _, _, rfl, h0, h1, h2, h3, h4⟩
theorem args6 {D : Hp} {t0 t1 t2 t3 t4 t5 : Ty} {vs : List V} (h : TysAt [t0, t1, t2, t3, t4, t5] vs D) : ∃ v0 v1 v2 v3 v4 v5, vs = [v0, v1, v2, v3, v4, v5] ∧ t0.p v0 D ∧ t1.p v1 D ∧ t2.p v2 D ∧ t3.p v3 D ∧ t4.p v4 D ∧ t5.p v5 D := by
  obtain _ | ⟨h0, h⟩ := h
  obtain _ | ⟨h1, h⟩ := h
  obtain _ | ⟨h2, h⟩ := h
  obtain _ | ⟨h3, h⟩ := h
  obtain _ | ⟨h4, h⟩ := h
  obtain _ | ⟨h5, h⟩ := h
  cases h
  exact ⟨_, _, _, _, _, _, rfl, h0, h1, h2, h3, h4, h5⟩
theorem args7 {D : Hp} {t0 t1 t2 t3 t4 t5 t6 : Ty} {vs : List V} (h : TysAt [t0, t1, t2, t3, t4, t5, t6] vs D) : ∃ v0 v1 v2 v3 v4 v5 v6, vs = [v0, v1, v2, v3, v4, v5, v6] ∧ t0.p v0 D ∧ t1.p v1 D ∧ t2.p v2 D ∧ t3.p v3 D ∧ t4.p v4 D ∧ t5.p v5 D ∧ t6.p v6 D := by
  obtain _ | ⟨h0, h⟩ := h
  obtain _ | ⟨h1, h⟩ := h
  obtain _ | ⟨h2, h⟩ := h
  obtain _ | ⟨h3, h⟩ := h
  obtain _ | ⟨h4, h⟩ := h
  obtain _ | ⟨h5, h⟩ := h
  obtain _ | ⟨h6, h⟩ := h
  cases h
  exact ⟨_, _, _, _, _, _, _, rfl, h0, h1, h2, h3, h4, h5, h6⟩
section
variable {X : Cx} {K : PySem.W.Frag}
theorem k_ix_tup (h : X.K = K := by rfl) : IxR X (rIxT K) := h ▸ ix_tup
theorem k_ix_list (h : X.K = K := by rfl) : IxR X (rIxL K) := h ▸ ix_list
theorem k_in_seq (h : X.K = K := by rfl) : OpR X (compareOp .In) (rIn K false) := h ▸ op_in_seq
theorem k_notIn_seq (h : X.K = K := by rfl) : OpR X (compareOp .NotIn) (rIn K true) := h ▸ op_notIn_seq
theorem k_eqD (hu : X.A.units + 64 < cLine) (h : X.K = K := by rfl) : OpR X (compareOp .Eq) (rEqD K) := h ▸ op_eqD hu
theorem k_neD (hu : X.A.units + 64 < cLine) (h : X.K = K := by rfl) : OpR X (compareOp .NotEq) (rNeD K) := h ▸ op_neD hu
theorem k_inD (hu : X.A.units + 65 < cLine) (h : X.K = K := by rfl) : OpR X (compareOp .In) (rInD K) := h ▸ op_inD hu
theorem k_notInD (hu : X.A.units + 65 < cLine) (h : X.K = K := by rfl) : OpR X (compareOp .NotIn) (rNotInD K) := h ▸ op_notInD hu
theorem k_catA (h : X.K = K := by rfl) : OpR X (binaryOp .Add) (rCatA K) := h ▸ op_catA
theorem k_isi (h : X.K = K := by rfl) : CallR X (.builtin "isinstance") (rIsi K) := h ▸ call_isi
theorem k_len_seq (h : X.K = K := by rfl) : CallR X (.builtin "len") (fun xs H Q => ∃ p ys, xs = [.ref p] ∧ (SqL K H p ys ∨ SqT K H p ys) ∧ Q (.int ys.length) H) := h ▸ call_len_seq
theorem k_tuple_of (h : X.K = K := by rfl) : CallR X (.type "tuple") (fun xs H Q => ∃ p ys, xs = [.ref p] ∧ ((SqL K H p ys ∧ ∀ l, H l = none → Q (.ref l) (upd H l (.tup ys))) ∨ (SqT K H p ys ∧ Q (.ref p) H))) := h ▸ call_tuple_of
theorem k_all (hc : X.calm = true) (h : X.K = K := by rfl) : CallR X (.builtin "all") (rAll K) := h ▸ cr_all hc
theorem k_any (hc : X.calm = true) (h : X.K = K := by rfl) : CallR X (.builtin "any") (rAny K) := h ▸ cr_any hc
theorem k_pi_list {tg e : Expr} {te : TE} (he : PE X e te) (h : X.K = K := by rfl) : PI X tg e (iList K te) := h ▸ pi_list he
theorem k_pi_tup {tg e : Expr} {te : TE} (he : PE X e te) (h : X.K = K := by rfl) : PI X tg e (iTup K te) := h ▸ pi_tup he
theorem k_fld {e : Expr} {f : Str} {pos : Pos} {ta : TE} (he : PE X e ta) (hb : attributeBase e f X.env (eval e X.env) = eval e X.env) (h : X.K = K := by rfl) : PE X (.Attribute e f pos) (tFld K ta f) := h ▸ pe_fld he hb
theorem k_pg_tup {es : List Expr} {k : Nat} {t : TGs} {n : Nat} {pos : Pos} (hc : X.calm = true) (hh : PGs X es t) (hn : (assignEach es X.env).length = n := by rfl) (hst : (assignEach es X.env).findIdx? (·.1) = none := by rfl) (h : X.K = K := by rfl) :
    PG X (.Tuple es k pos) (gTup K n t) := h ▸ pg_tup hc hh hn hst
end
end K02
set_option Elab.async false
set_option linter.all false
set_option maxRecDepth 100000
set_option maxHeartbeats 4000000
/-! sorted(..) of data: what was collected, then sorted. -/
namespace K02
open PySem PySem.Spec PyProof.Rows L2 PySem.W
section
variable {P : Program} {w : World} {A : Around} {E : Value → Shared → Prop} {s : Shared} {β : Type}
theorem reads_lt {h : Heap} {v : Value} {d : PyData} {as : List Addr} (r : Reads h v d as) : ∀ a ∈ as, a < h.objs.size := fun a ha => by
  obtain ⟨o, ho⟩ := PyProof.On.readsAll_mem_get (.cons r .nil) a (by simpa using ha)
  exact Heap.lt_size ho
theorem pr_of_map {τ : β → Ty} {D : Hp} : ∀ {bs : List β} {vs : List V}, TysAt (bs.map τ) vs D → Paired (fun x b => (τ b).p x D) vs bs
  | [], _, h => by cases h; exact .nil
  | b :: r, _, h => by
    rw [List.map_cons] at h
    cases h with
    | cons h1 h2 => exact .cons h1 (pr_of_map h2)
theorem pr_to_map {τ : β → Ty} {D D' : Hp} (k : Kq D D') : ∀ {bs : List β} {vs : List V}, Paired (fun x b => (τ b).p x D) vs bs → TysAt (bs.map τ) vs D'
  | _, _, .nil => .nil
  | _, _, .cons h1 h2 => .cons ((τ _).up k h1) (pr_to_map k h2)
theorem pr_eq_map {f : β → V} : ∀ {L : List β} {ys : List V}, Paired (fun x b => x = f b) ys L → ys = L.map f
  | _, _, .nil => rfl
  | _, _, .cons h1 h2 => by rw [List.map_cons, h1, pr_eq_map h2]
/-- sorted(u), u collected as data in some order -/
theorem sorted_core {u : Value} {Q : Value → Shared → Prop} {enc : β → PyData} {R : Value → β → Prop} {bs0 : List β} (Okb : List β → Prop) (hok : ∀ bs, Okb bs → bs.Perm bs0)
    (hcol : ∀ (Q1 : List Value → Shared → Prop) (E1 : Value → Shared → Prop), (∀ (s1 : Shared) (out : List Value) (bs : List β), Okb bs → (∀ b o, s.heap.get? b = some o → s1.heap.get? b = some o) → s1.gens = s.gens → s1.os = s.os →
      EachIs R out bs → EachIs (fun v b => ∃ as, Reads s1.heap v (enc b) as) out bs → Q1 out s1) → wpAny (model P w) A.in1 (collect u) Q1 E1 s)
    (hal : AllAlike (bs0.map enc)) (hk : Sortable (bs0.map enc)) (hL : bs0.length ≤ 100000) (hu : ∀ b ∈ bs0, A.units + 2 + (enc b).depth < cLine)
    (h : ∀ (s1 s' : Shared) (p : Addr) (out : Array Value) (c : Nat) (bs : List β), Okb bs → (∀ b o, s.heap.get? b = some o → s1.heap.get? b = some o) → (∀ b o, s1.heap.get? b = some o → s'.heap.get? b = some o) → s'.gens = s.gens → s'.os = s.os → s1.heap.objs.size ≤ p → s'.heap.get? p = some (seqObj "list" out c) →
      EachIs R out.toList (bs.mergeSort (dataLe false enc)) → Q (.ref p) s') :
    wpAny (model P w) A (call (.builtin "sorted") [u]) Q E s := by
  refine Calls.call_function_entry PyProof.Rows.kind_sorted PyProof.Rows.plain_sorted PyProof.Rows.entry_sorted (PyProof.Rows.args_sorted1 _) ?_
  unfold Builtin.«sorted»
  refine wpAny_bind (m := checkCount "sorted" 1 1 _) (wpAny_pure ?_)
  refine wpAny_bind (hcol _ _ fun s1 out bs ok k1 g1 o1 eR er => ?_)
  have pm := hok bs ok
  have hl : out.length = bs0.length := by rw [eR.length, pm.length_eq]
  refine wpAny_bind (wpAny_newList ?_ (by rw [hl, sizeLine_eq]; omega))
  have hoL : (s1.heap.push (seqObj "list" out.toArray 0)).get? s1.heap.objs.size = some (seqObj "list" out.toArray 0) := Heap.get?_push_size _ rfl
  have hp : (bs.map enc).Perm (bs0.map enc) := pm.map enc
  have hal' : AllAlike (bs.map enc) := fun d hd d' hd' => hal d (hp.mem_iff.mp hd) d' (hp.mem_iff.mp hd')
  have hk' : Sortable (bs.map enc) := by
    rcases hk with z | z
    · exact .inl fun d hd => z d (hp.mem_iff.mp hd)
    · exact .inr fun d hd => z d (hp.mem_iff.mp hd)
  have er2 : EachIs (fun v b => ∃ as, Reads (s1.heap.push (seqObj "list" out.toArray 0)) v (enc b) as ∧ s1.heap.objs.size ∉ as) out bs := er.mono fun v b ⟨as, r⟩ =>
    ⟨as, PyProof.Rows.Reads.keeps (fun _ _ e => Heap.get?_push_of_some _ e) r, fun hm => Nat.lt_irrefl _ (reads_lt r _ hm)⟩
  show wpAny _ _ _ _ _ { s1 with heap := s1.heap.push (seqObj "list" out.toArray 0) }
  refine wpAny_bind (wpAny_holding (list_sort_data (s := { s1 with heap := s1.heap.push (seqObj "list" out.toArray 0) }) hoL eR er2 hal' hk' (by rw [pm.length_eq, sizeLine_eq]; omega) (fun b hb => by
    have := hu b (pm.mem_iff.mp hb)
    show A.in1.units + 1 + _ < _
    rw [Around.in1_units]
    omega) fun o2 l2 e2 => ?_))
  obtain ⟨c, hc⟩ := sortedHeap_at (vs := out) (out := o2.toArray) hoL
  refine wpAny_pure ⟨_, rfl, h s1 _ s1.heap.objs.size o2.toArray c bs ok k1 (fun b o q => ?_) g1 o1 (Nat.le_refl _) hc (by simpa using e2)⟩
  have hlt := Heap.lt_size q
  show (sortedHeap (s1.heap.push (seqObj "list" out.toArray 0)) s1.heap.objs.size out o2.toArray).get? b = some o
  rw [sortedHeap_old (Nat.ne_of_lt hlt) (by rw [size_push']; exact Nat.lt_succ_of_lt hlt)]
  exact Heap.get?_push_of_some _ q
end
section
variable {X : Cx} {pins : List (Addr × Obj)} {σ : Sl} {H : Hp} {s : Shared} {β : Type}
theorem each_vals {R : V → β → Prop} : ∀ {us : List Value} {bs : List β}, EachIs (fun v b => ∃ x, RelV x v ∧ R x b) us bs → ∃ ys, Vals ys us ∧ Paired R ys bs
  | _, _, .nil => ⟨[], .nil, .nil⟩
  | _, _, .cons ⟨x, r, h⟩ t => by
    obtain ⟨ys, h1, h2⟩ := each_vals t
    exact ⟨x :: ys, .cons r h1, .cons h h2⟩
theorem vals_each {R : V → β → Prop} : ∀ {ys : List V} {us : List Value} {bs : List β}, Vals ys us → Paired R ys bs → EachIs (fun v b => ∃ x, RelV x v ∧ R x b) us bs
  | _, _, _, .nil, .nil => .nil
  | _, _, _, .cons r t, .cons h u => .cons ⟨_, r, h⟩ (vals_each t u)
/-- the new list at p is tracked -/
theorem fin_list (I : Inv X pins σ H s) {s1 s' : Shared} {p : Addr} {out : Array Value} {c : Nat} {ys : List V} {Q : VK} (k1 : ∀ b o, s.heap.get? b = some o → s1.heap.get? b = some o) (k : ∀ b o, s1.heap.get? b = some o → s'.heap.get? b = some o) (g : s'.gens = s.gens) (o : s'.os = s.os)
    (hp : s1.heap.objs.size ≤ p) (hg : s'.heap.get? p = some (seqObj "list" out c)) (hv : Vals ys out.toList) (hz : ys.length ≤ sizeLine) (q : H p = none → Q (.ref p) (upd H p (.lst ys))) : EP X pins σ Q (.ref p) s' := by
  have hn : H p = none := (I.hok.kept k1).fresh hp
  have J1 : Inv X pins σ H { s with heap := s1.heap, gens := s'.gens, drawn := s'.drawn, toks := s'.toks } :=
    I.call (ch := []) (Un.kept k1) (I.hok.kept k1) (by rw [g]; exact I.bare) (fun _ z => nomatch z)
  have J : Inv X pins σ (upd H p (.lst ys)) { s with heap := s'.heap, gens := s'.gens, drawn := s'.drawn, toks := s'.toks } := J1.laid (t' := s'.toks) k hp ⟨hz, out.toList, c, hv, hg⟩
  have e : s' = { s with heap := s'.heap, gens := s'.gens, drawn := s'.drawn, toks := s'.toks } := by
    cases s'
    cases s
    cases o
    rfl
  rw [e]
  exact ⟨.ref p, _, J, rfl, q hn⟩
/-- a list of data -/
def rSrtL (K : PySem.W.Frag) : List V → Hp → VK → Prop := fun vs H Q => ∃ (a : Addr) (xs : List V) (β : Type) (enc : β → PyData) (bs : List β) (R : V → β → Prop), vs = [.ref a] ∧ SqL K H a xs ∧ Paired R xs bs ∧ DpAll K H xs (bs.map enc) ∧
  AllAlike (bs.map enc) ∧ Sortable (bs.map enc) ∧ bs.length ≤ 100000 ∧ (∀ b ∈ bs, (enc b).depth ≤ 8) ∧ ∀ ys p, Paired R ys (bs.mergeSort (dataLe false enc)) → H p = none → Q (.ref p) (upd H p (.lst ys))
theorem cr_srtL (hu : X.A.units + 64 < cLine) : CallR X (.builtin "sorted") (rSrtL X.K) := by
  intro pins s σ H vs us Q I r h
  obtain ⟨a, xs, β, enc, bs, R, rfl, hs, hR, hd, hal, hk, hL, hdp, q⟩ := h
  rw [Vals.ref1 r]
  obtain ⟨its, rv, hl, _⟩ := I.list hs
  obtain ⟨as, rd⟩ := Dp.readsAll I _ _ _ hd rv
  have eR := vals_each rv hR
  have hlen : its.length = bs.length := eR.length
  refine sorted_core (enc := enc) (R := fun v b => ∃ x, RelV x v ∧ R x b) (bs0 := bs) (fun z => z = bs) (fun z e => by rw [e]) (fun Q1 E1 h1 => ?_) hal hk hL (fun b hb => by have := hdp b hb; omega) fun s1 s' p out c bs' eb k1 k g o hp hg e => ?_
  · refine collect_list hl.isList ?_ (by rw [hlen, sizeLine_eq]; omega)
    have keep : ∀ b o, s.heap.get? b = some o → ((s.heap.push (seqObj "list" #[] 0)).update s.heap.objs.size (Obj.mapSeq (· ++ its.toArray))).get? b = some o := fun b o e => by
      rw [Heap.get?_update_ne _ _ _ _ (Nat.ne_of_lt (Heap.lt_size e))]
      exact Heap.get?_push_of_some _ e
    exact h1 _ _ bs rfl keep rfl rfl eR ((readsAll_each enc rd).mono fun v b ⟨as, r⟩ => ⟨as, PyProof.Rows.Reads.keeps keep r⟩)
  · subst eb
    obtain ⟨ys, h1, h2⟩ := each_vals e
    exact fin_list I k1 k g o hp hg h1 (by rw [pr_len h2, List.length_mergeSort, sizeLine_eq]; omega) (q ys p h2)

/-- a list's sorted list -/
theorem rc_sortL {K : PySem.W.Frag} {τ : β → Ty} {enc : β → PyData} {bs : List β} (hd : ∀ b, IsDp K (τ b) (enc b)) (hal : AllAlike (bs.map enc)) (hk : Sortable (bs.map enc)) (hL : bs.length ≤ 100000) (hdp : ∀ b ∈ bs, (enc b).depth ≤ 8) :
    RC (rSrtL K) [tyL (bs.map τ)] (tyL ((bs.mergeSort (dataLe false enc)).map τ)) := fun xs D H k h Q q => by
  obtain ⟨v, rfl, hv⟩ := args1 h
  obtain ⟨a, vs, rfl, ha, tv⟩ := hv
  have pr := pr_of_map tv
  refine ⟨a, vs, β, enc, bs, fun x b => (τ b).p x D, rfl, SqL.of (k.q.fx (u := .lst vs) True.intro ha), pr, dpAll hd k tv, hal, hk, hL, hdp, fun ys p py hp => ?_⟩
  refine q (.ref p) _ _ ((Grow.refl k).add (u := .lst ys) hp (.inl True.intro)) ⟨p, ys, rfl, upd_same, ?_⟩
  exact pr_to_map (Kp.new (k.dom hp) (nofz_of (.inl (show Fixd (.lst ys) from True.intro)))).q py
theorem srt_perm {enc : β → PyData} {bs : List β} : (bs.mergeSort (dataLe false enc)).Perm bs := List.mergeSort_perm _ _
/-- the signs of a text, sorted -/
def rSrtS : List V → Hp → VK → Prop := fun vs H Q => ∃ z : Str, vs = [.str z] ∧ z.length ≤ 100000 ∧ ∀ p, H p = none → Q (.ref p) (upd H p (.lst ((z.cps.toList.mergeSort (dataLe false fun c => .str (sign c))).map fun c => V.str (sign c))))
theorem cr_srtS (hc : X.calm = true) (hu : X.A.units + 64 < cLine) : CallR X (.builtin "sorted") rSrtS := by
  intro pins s σ H vs us Q I r h
  obtain ⟨z, rfl, hz, q⟩ := h
  obtain ⟨u, rfl, t, rfl⟩ := vals1 r
  have hz2 : z.cps.size ≤ 100000 := hz
  refine sorted_core (enc := fun c : Nat => PyData.str (sign c)) (R := fun v c => ∃ x, RelV x v ∧ x = V.str (sign c)) (bs0 := z.cps.toList) (fun y => y = z.cps.toList) (fun y e => by rw [e]) (fun Q1 E1 h1 => ?_) (AllAlike.of fun _ _ => rfl) (Sortable.others fun c => ⟨(fun e => nomatch e), fun xs e => nomatch e⟩) (by simpa using hz2)
    (fun b hb => by show _ + 0 < _; omega) fun s1 s' p out c bs' eb k1 k g o hp hg e => ?_
  · refine wpAny_collect_str (A := X.A.in1) (show X.A.in1.handled = none from I.ok.hd hc) z t (fun s1 acc k g1 _ o1 ha => ?_) (by rw [sizeLine_eq]; omega)
    have sg : ∀ (i : Nat) (c : Nat), z.cps.toList[i]? = some c → ∃ v, acc.toList[i]? = some v ∧ ∃ u, v = Value.str (sign c) u := fun i c e => by
      have hi : i < acc.size := by
        rw [ha.1]
        have := (List.getElem?_eq_some_iff.mp e).1
        simpa using this
      obtain ⟨c', u, h2, h3⟩ := ha.2 i acc[i] (Array.getElem?_eq_getElem hi)
      have : c' = c := by
        have e' : z.cps[i]? = some c := by rw [← Array.getElem?_toList]; exact e
        rw [e'] at h2
        exact (Option.some.inj h2).symm
      subst this
      exact ⟨acc[i], by rw [Array.getElem?_toList]; exact Array.getElem?_eq_getElem hi, u, h3⟩
    have each : ∀ {R : Value → Nat → Prop}, (∀ c u, R (.str (sign c) u) c) → EachIs R acc.toList z.cps.toList := fun {R} hR => by
      refine EachIs.of_zip (by rw [Array.length_toList, Array.length_toList, ha.1]) fun p hp => ?_
      obtain ⟨i, hi⟩ := List.getElem?_of_mem hp
      rw [List.getElem?_zip_eq_some] at hi
      obtain ⟨v, e1, u, e2⟩ := sg i _ hi.2
      rw [hi.1] at e1
      rw [Option.some.inj e1, e2]
      exact hR _ _
    exact h1 _ _ _ rfl k g1 o1 (each fun c u => ⟨.str (sign c), ⟨u, rfl⟩, rfl⟩) (each fun c u => ⟨_, Reads.str _ _⟩)
  · subst eb
    obtain ⟨ys, h1, h2⟩ := each_vals e
    have ey := pr_eq_map h2
    rw [ey] at h1
    exact fin_list I k1 k g o hp hg h1 (by rw [List.length_map, List.length_mergeSort, sizeLine_eq, Array.length_toList]; omega) (q p)
theorem rc_sortS {z : Str} (hz : z.length ≤ 100000) : RC rSrtS [tyS z] (tyL ((z.cps.toList.mergeSort (dataLe false fun c => .str (sign c))).map fun c => tyS (sign c))) := fun xs D H k h Q q => by
  obtain ⟨v, rfl, hv⟩ := args1 h
  have hv : v = .str z := hv
  subst hv
  refine ⟨z, rfl, hz, fun p hp => q (.ref p) _ _ ((Grow.refl k).add (u := .lst _) hp (.inl True.intro)) ⟨p, _, rfl, upd_same, ?_⟩⟩
  have := tysAt_of (xs := (z.cps.toList.mergeSort (dataLe false fun c => .str (sign c))).map fun c => V.str (sign c)) (H := upd D p (.lst ((z.cps.toList.mergeSort (dataLe false fun c => .str (sign c))).map fun c => V.str (sign c))))
  rw [List.map_map] at this
  exact this
end
end K02
set_option Elab.async false
set_option linter.all false
set_option maxRecDepth 100000
set_option maxHeartbeats 4000000
/-! Dicts whose keys are pairs of an int and a tuple of texts. -/
namespace K02
open PySem PySem.Spec PyProof.Rows L2 PySem.W
abbrev Pr := Int × List Str
def nk (p : Pr) : NestedKey := .tup [.num p.1, .tup (p.2.map .text)]
theorem texts_inj : ∀ a b : List Str, a.map NestedKey.text = b.map NestedKey.text → a = b
  | [], [], _ => rfl
  | [], _ :: _, h => by simp at h
  | _ :: _, [], h => by simp at h
  | x :: r, y :: t, h => by
    simp only [List.map_cons, List.cons.injEq, NestedKey.text.injEq] at h
    rw [h.1, texts_inj r t h.2]
theorem nk_inj {p q : Pr} (h : nk p = nk q) : p = q := by
  obtain ⟨i, a⟩ := p
  obtain ⟨j, b⟩ := q
  simp only [nk, NestedKey.tup.injEq, List.cons.injEq, NestedKey.num.injEq, and_true] at h
  obtain ⟨h1, h2⟩ := h
  subst h1
  rw [texts_inj _ _ h2]
theorem nk_depth (p : Pr) : (nk p).depth ≤ 8 := by
  have h : ∀ l : List Str, NestedKey.depthAll (l.map .text) = 0 := fun l => by
    induction l with
    | nil => rfl
    | cons a r ih =>
      rw [List.map_cons]
      show max 0 _ = 0
      rw [ih]
      rfl
  show max 0 (max (NestedKey.depthAll (p.2.map .text) + 1) 0) + 1 ≤ 8
  rw [h]
  decide
/-- the pair p stands at q -/
def PrAt (H : Hp) (q : Addr) (p : Pr) : Prop := ∃ q2, H q = some (.tup [.int p.1, .ref q2]) ∧ H q2 = some (.tup (p.2.map V.str))
abbrev tyPr (p : Pr) : Ty := tyT [tyI p.1, tyT (p.2.map tyS)]
theorem prAt_ty {D : Hp} {p : Pr} {v : V} (h : (tyPr p).p v D) : ∃ q, v = .ref q ∧ PrAt D q p := by
  obtain ⟨a, vs, rfl, ha, hv⟩ := h
  obtain ⟨x, y, rfl, hx, hy⟩ := args2 hv
  obtain ⟨b, ws, rfl, hb, hw⟩ := hy
  have hx : x = .int p.1 := hx
  subst hx
  have : ws = p.2.map V.str := all_flat (by rw [List.map_map]; exact hw)
  subst this
  exact ⟨a, rfl, b, ha, hb⟩
theorem PrAt.up {H H' : Hp} (k : Kq H H') {q : Addr} {p : Pr} (h : PrAt H q p) : PrAt H' q p := by
  obtain ⟨q2, h1, h2⟩ := h
  exact ⟨q2, k.fx (u := .tup _) True.intro h1, k.fx (u := .tup _) True.intro h2⟩
theorem PrAt.ty {D : Hp} {q : Addr} {p : Pr} (h : PrAt D q p) : (tyPr p).p (.ref q) D := by
  obtain ⟨q2, h1, h2⟩ := h
  refine ⟨q, _, rfl, h1, .cons rfl (.cons ⟨q2, _, rfl, h2, ?_⟩ .nil)⟩
  have := tysAt_of (xs := p.2.map V.str) (H := D)
  rw [List.map_map] at this
  exact this
/-- where the tuple is known, the rest may change -/
theorem PrAt.seen {D H D' H' : Hp} {q : Addr} {p : Pr} (g : Grow D H D' H') (h : PrAt H' q p) : ∃ D2, Grow D H D2 H' ∧ Kp D' D2 ∧ PrAt D2 q p := by
  obtain ⟨q2, h1, h2⟩ := h
  obtain ⟨D1, g1, k1, s1⟩ := g.seen h1
  obtain ⟨D2, g2, k2, s2⟩ := g1.seen h2
  exact ⟨D2, g2, k1.trans k2, q2, k2.q.fx (u := .tup _) True.intro s1, s2⟩
section
variable {P : Program} {w : World}
theorem texts_all {h : Heap} : ∀ {ns : List Str} {us : List Value}, Vals (ns.map V.str) us → NestedAll h (ns.map .text) us
  | [], _, r => by cases r; exact .nil
  | n :: ns, _, r => by
    rw [List.map_cons] at r ⊢
    cases r with
    | cons r1 r2 =>
      obtain ⟨t, rfl⟩ := r1
      exact .cons (.text _ _) (texts_all r2)
theorem prAt_is {H : Hp} {h : Heap} (ok : HOk P w H h) {q : Addr} {p : Pr} (x : PrAt H q p) : (nestedKind P w).is h (nk p) q := by
  obtain ⟨q2, h1, h2⟩ := x
  obtain ⟨_, its, r, o, a1, a2, n, a3⟩ := (show ObjOk P w H h q (.tup _) from ok _ _ h1)
  obtain ⟨_, its2, r2, o2, b1, b2, n2, b3⟩ := (show ObjOk P w H h q2 (.tup _) from ok _ _ h2)
  refine ⟨?_, nk_depth p⟩
  cases r with
  | cons c1 c2 =>
    cases c2 with
    | cons c2 c3 =>
      cases c3
      obtain ⟨t, rfl⟩ := c1
      cases c2
      exact .tup a1 a2 a3 (.cons (.int _ _) (.cons (.tup b1 b2 b3 (texts_all r2)) .nil))
/-- an entry: the key, where its tuple stands, the value -/
abbrev Ent := Pr × Addr × V
def NdR (P : Program) (w : World) (a : Addr) (L : List Ent) (h : Heap) : Prop := (a == sysModules) = false ∧ L.length ≤ sizeLine ∧ (L.map (·.1)).Nodup ∧
  ∃ xs : List (NestedKey × Addr × Value), Paired (fun (l : Ent) (x : NestedKey × Addr × Value) => x.1 = nk l.1 ∧ x.2.1 = l.2.1 ∧ RelV l.2.2 x.2.2) L xs ∧
    ∃ o es ep, h.get? a = some o ∧ o.ExactDict ∧ o.data = .dict es ep ∧ es.toList = xs.map (entryOfKey (nestedKind P w))
def NDict (P : Program) (w : World) (a : Addr) (L : List Ent) : HO := .ext (NdR P w a L)
def PrKeys (H : Hp) (L : List Ent) : Prop := ∀ l ∈ L, PrAt H l.2.1 l.1
theorem PrKeys.up {H H' : Hp} (k : Kq H H') {L : List Ent} (h : PrKeys H L) : PrKeys H' L := fun l hl => (h l hl).up k
theorem nd_new {H : Hp} {h : Heap} {a : Addr} {L : List Ent} (r : NdR P w a L h) : ObjOk P w H h a (NDict P w a L) := by
  have ⟨_, _, _, xs, _, o, es, ep, ho, _⟩ := r
  refine ⟨r, ⟨o, ho⟩, fun h1 h2 r1 k => ?_⟩
  have ⟨z1, z2, z3, xs, z4, o, es, ep, ho, z5⟩ := r1
  exact ⟨z1, z2, z3, xs, z4, o, es, ep, k o ho, z5⟩
theorem nd_keys {H : Hp} {h : Heap} (ok : HOk P w H h) : ∀ {L : List Ent} {xs : List (NestedKey × Addr × Value)}, Paired (fun (l : Ent) (x : NestedKey × Addr × Value) => x.1 = nk l.1 ∧ x.2.1 = l.2.1 ∧ RelV l.2.2 x.2.2) L xs → PrKeys H L →
    (∀ x ∈ xs, (nestedKind P w).is h x.1 x.2.1) ∧ xs.map (·.1) = L.map (fun l => nk l.1)
  | _, _, .nil, _ => ⟨fun x hx => by (cases hx), rfl⟩
  | l :: L, x :: xs, .cons r t, pk => by
    obtain ⟨h1, h2⟩ := nd_keys ok t fun l hl => pk l (List.mem_cons_of_mem _ hl)
    refine ⟨fun y hy => ?_, ?_⟩
    · rcases List.mem_cons.mp hy with rfl | hy
      · rw [r.1, r.2.1]
        exact prAt_is ok (pk l List.mem_cons_self)
      · exact h1 y hy
    · rw [List.map_cons, List.map_cons, h2, r.1]
theorem nk_nodup {L : List Ent} (h : (L.map (·.1)).Nodup) : (L.map fun l => nk l.1).Nodup := by
  have : (L.map fun l => nk l.1) = (L.map (·.1)).map nk := by rw [List.map_map]; rfl
  rw [this]
  exact List.Pairwise.map _ (fun a b h e => h (nk_inj e)) h
theorem nd_of {H : Hp} {h : Heap} (ok : HOk P w H h) {a : Addr} {L : List Ent} (e : Rd H a (NDict P w a L)) (pk : PrKeys H L) : (a == sysModules) = false ∧ L.length ≤ sizeLine ∧ (L.map (·.1)).Nodup ∧
    ∃ xs, Paired (fun (l : Ent) (x : NestedKey × Addr × Value) => x.1 = nk l.1 ∧ x.2.1 = l.2.1 ∧ RelV l.2.2 x.2.2) L xs ∧ h.DictOfH (nestedKind P w) a xs := by
  obtain ⟨z1, z2, z3, xs, z4, o, es, ep, ho, z5, z6, z7⟩ := (show NdR P w a L h from (show ObjOk P w H h a (NDict P w a L) from rd_of ok e).1)
  obtain ⟨k1, k2⟩ := nd_keys ok z4 pk
  exact ⟨z1, z2, z3, xs, z4, o, es, ep, ho, z5, z6, z7, k1, by rw [k2]; exact nk_nodup z3⟩
/-- what it holds -/
def valN (L : List Ent) (p : Pr) : Option V := (L.find? fun l => decide (l.1 = p)).map (·.2.2)
theorem atKey_val : ∀ {L : List Ent} {xs : List (NestedKey × Addr × Value)}, Paired (fun (l : Ent) (x : NestedKey × Addr × Value) => x.1 = nk l.1 ∧ x.2.1 = l.2.1 ∧ RelV l.2.2 x.2.2) L xs → ∀ p, RelO (valN L p) ((atKey xs (nk p)).map (·.2))
  | _, _, .nil, p => True.intro
  | l :: L, x :: xs, .cons r t, p => by
    have ih := atKey_val t p
    unfold valN atKey at ih ⊢
    rw [List.find?_cons, List.find?_cons]
    by_cases c : l.1 = p
    · rw [decide_eq_true c, decide_eq_true (show x.1 = nk p from by rw [r.1, c])]
      exact r.2.2
    · rw [decide_eq_false c, decide_eq_false (show ¬ x.1 = nk p from fun z => c (nk_inj (r.1.symm.trans z)))]
      exact ih
theorem nested_room {A : Around} (hu : A.units + 64 < cLine) : (nestedKind P w).room A.in1 := by
  show A.in1.units + 8 < cLine
  rw [Around.in1_units]
  omega
theorem valN_none {L : List Ent} {p : Pr} (h : p ∉ L.map (·.1)) : valN L p = none := by
  unfold valN
  have : (L.find? fun l => decide (l.1 = p)) = none := List.find?_eq_none.mpr fun l hl z => h (List.mem_map.mpr ⟨l, hl, of_decide_eq_true z⟩)
  rw [this]
  rfl
theorem valN_some {L : List Ent} {l : Ent} (n : (L.map (·.1)).Nodup) (h : l ∈ L) : valN L l.1 = some l.2.2 := by
  unfold valN
  induction L with
  | nil => cases h
  | cons a r ih =>
    rw [List.find?_cons]
    rw [List.map_cons, List.nodup_cons] at n
    rcases List.mem_cons.mp h with rfl | h
    · rw [decide_eq_true rfl]
      rfl
    · have : a.1 ≠ l.1 := fun z => n.1 (List.mem_map.mpr ⟨l, h, z.symm⟩)
      rw [decide_eq_false this]
      exact ih n.2 h
end
section
variable {X : Cx} {pins : List (Addr × Obj)} {σ : Sl} {H : Hp} {s : Shared} {a q : Addr} {p : Pr} {L : List Ent} {A : Around} {E : Value → Shared → Prop} {v : V} {r : Value}
theorem n_getItem {Q : Value → Shared → Prop} (hu : A.units + 64 < cLine) (I : Inv X pins σ H s) (e : Rd H a (NDict X.prog X.w a L)) (pk : PrKeys H L) (x : PrAt H q p) (l : valN L p = some v) (h : ∀ w' s', Inv X pins σ H s' → RelV v w' → Q w' s') :
    wpAny (model X.prog X.w) A (getItem (.ref a) (.ref q)) Q E s := by
  obtain ⟨z, _, _, xs, rel, dd⟩ := nd_of I.hok e pk
  obtain ⟨w', hw, rw'⟩ := RelO.some_of (v := v) (o := (atKey xs (nk p)).map (·.2)) (by rw [← l]; exact atKey_val rel p)
  obtain ⟨pp, hp, hp2⟩ := Option.map_eq_some_iff.mp hw
  refine wpAny_getItem_heap (nested_room hu) (prAt_is I.hok x) dd hp ?_
  rw [hp2]
  exact h w' _ (I.tok _) rw'
theorem n_in {Q : Value → Shared → Prop} (hu : A.units + 64 < cLine) (I : Inv X pins σ H s) (e : Rd H a (NDict X.prog X.w a L)) (pk : PrKeys H L) (x : PrAt H q p) (h : ∀ s', Inv X pins σ H s' → Q (.bool (valN L p).isSome) s') :
    wpAny (model X.prog X.w) A (compareOp .In (.ref q) (.ref a)) Q E s := by
  obtain ⟨z, _, _, xs, rel, dd⟩ := nd_of I.hok e pk
  refine wpAny_in_heap (nested_room hu) (prAt_is I.hok x) z dd ?_
  have q := (atKey_val rel p).isSome_eq
  rw [Option.isSome_map] at q
  rw [← q]
  exact h _ (I.tok _)
theorem n_notIn {Q : Value → Shared → Prop} (hu : A.units + 64 < cLine) (I : Inv X pins σ H s) (e : Rd H a (NDict X.prog X.w a L)) (pk : PrKeys H L) (x : PrAt H q p) (h : ∀ s', Inv X pins σ H s' → Q (.bool (!(valN L p).isSome)) s') :
    wpAny (model X.prog X.w) A (compareOp .NotIn (.ref q) (.ref a)) Q E s := by
  obtain ⟨z, _, _, xs, rel, dd⟩ := nd_of I.hok e pk
  refine wpAny_notIn_heap (nested_room hu) (prAt_is I.hok x) z dd ?_
  have q := (atKey_val rel p).isSome_eq
  rw [Option.isSome_map] at q
  rw [← q]
  exact h _ (I.tok _)
theorem n_put {xs : List (NestedKey × Addr × Value)} {h' : Heap} {t' : Nat} (I : Inv X pins σ H s) (e : H a = some (NDict X.prog X.w a L)) (pk : PrKeys H L) (no : p ∉ L.map (·.1)) (z : L.length < sizeLine) (rv : RelV v r)
    (rel : Paired (fun (l : Ent) (x : NestedKey × Addr × Value) => x.1 = nk l.1 ∧ x.2.1 = l.2.1 ∧ RelV l.2.2 x.2.2) L xs) (hd : (a == sysModules) = false) (nd : (L.map (·.1)).Nodup)
    (dd : h'.DictOfH (nestedKind X.prog X.w) a (storedH xs (nk p) q r)) (hs : Heap.SameBut a s.heap h') : Inv X pins σ (upd H a (NDict X.prog X.w a (L ++ [(p, q, v)]))) { s with heap := h', toks := t' } := by
  have no2 : atKey xs (nk p) = none := by
    have := atKey_val rel p
    rw [valN_none no] at this
    cases w : atKey xs (nk p) with
    | none => rfl
    | some y =>
      rw [w] at this
      exact this.elim
  rw [storedH_new no2] at dd
  obtain ⟨o, es, ep, h1, h2, h3, h4, _, _⟩ := dd
  refine d_write I (by rw [e]; exact True.intro) hs ⟨o, h1⟩ (nd_new ⟨hd, by rw [List.length_append]; exact z, ?_, xs ++ [(nk p, q, r)], pr_app rel (.cons ⟨rfl, rfl, rv⟩ .nil), o, es, ep, h1, h2, h3, h4⟩)
  rw [List.map_append]
  refine List.nodup_append.mpr ⟨nd, by simp, fun x hx y hy e => no ?_⟩
  simp at hy
  rw [← hy, ← e]
  exact hx
theorem n_setItem {Q : Unit → Shared → Prop} (hu : A.units + 64 < cLine) (I : Inv X pins σ H s) (e : H a = some (NDict X.prog X.w a L)) (pk : PrKeys H L) (x : PrAt H q p) (no : p ∉ L.map (·.1)) (z : L.length < sizeLine) (rv : RelV v r)
    (h : ∀ s', Inv X pins σ (upd H a (NDict X.prog X.w a (L ++ [(p, q, v)]))) s' → Q () s') : wpAny (model X.prog X.w) A (setItem (.ref a) (.ref q) r) Q E s := by
  obtain ⟨hd, _, nd, xs, rel, dd⟩ := nd_of I.hok (.inl e) pk
  have hz : xs.length ≤ sizeLine := by rw [← pr_len rel]; exact Nat.le_of_lt z
  refine wpAny_setItem_heap (hsz := hz) (nested_room hu) (prAt_is I.hok x) dd fun h' dd' hs => h _ (n_put I e pk no z rv rel hd nd dd' hs)
end
/-! ### rules -/
/-- d[y], y in d, y not in d, d[y] = v -/
def tNGet (P : Program) (w : World) (td ty : TE) : TE := fun σ H Q => td σ H fun x H1 => ty σ H1 fun y H2 => ∃ a q p L v, x = .ref a ∧ y = .ref q ∧ Rd H2 a (NDict P w a L) ∧ PrKeys H2 L ∧ PrAt H2 q p ∧ valN L p = some v ∧ Q v H2
def tNIn (P : Program) (w : World) (ty td : TE) : TE := fun σ H Q => ty σ H fun y H1 => td σ H1 fun x H2 => ∃ a q p L, x = .ref a ∧ y = .ref q ∧ Rd H2 a (NDict P w a L) ∧ PrKeys H2 L ∧ PrAt H2 q p ∧ Q (.bl (valN L p).isSome) H2
def tNNotIn (P : Program) (w : World) (ty td : TE) : TE := fun σ H Q => ty σ H fun y H1 => td σ H1 fun x H2 => ∃ a q p L, x = .ref a ∧ y = .ref q ∧ Rd H2 a (NDict P w a L) ∧ PrKeys H2 L ∧ PrAt H2 q p ∧ Q (.bl (!(valN L p).isSome)) H2
def sNPut (P : Program) (w : World) (td ty tv : TE) : TS := fun D σ H => tv σ H fun v H1 => td σ H1 fun x H2 => ty σ H2 fun y H3 => ∃ a q p L, x = .ref a ∧ y = .ref q ∧ H3 a = some (NDict P w a L) ∧ PrKeys H3 L ∧ PrAt H3 q p ∧ p ∉ L.map (·.1) ∧ L.length < sizeLine ∧
  D.nx σ (upd H3 a (NDict P w a (L ++ [(p, q, v)])))
section
variable {X : Cx} {o i value : Expr} {td ty tv : TE} {pos pos' : Pos}
theorem pe_nget (hu : X.A.units + 64 < cLine) (ho : PE X o td) (hi : PE X i ty) (hs : NoSl i) : PE X (.Subscript o i pos) (tNGet X.prog X.w td ty) := by
  refine ⟨fun pins s σ H Q I h => ?_⟩
  refine subD_of PySem.F.slot_dict_getitem.lookup hs (thn (ho.run pins s σ H _ I h) fun u s1 ⟨x, H1, I1, rx, q1⟩ => thn (hi.run pins s1 σ H1 _ I1 q1) fun iv s2 ⟨y, H2, I2, ry, a, q, p, L, v, ex, ey, e, pk, pa, l, q2⟩ => ?_)
  subst ex ey
  obtain rfl : u = Value.ref a := rx
  obtain rfl : iv = Value.ref q := ry
  obtain ⟨_, _, _, xs, _, dd⟩ := nd_of I2.hok e pk
  exact ⟨dd.typeIs, n_getItem hu I2 e pk pa l fun w' s3 I3 rw' => ⟨v, H2, I3, rw', q2⟩⟩
theorem pc_nin (hu : X.A.units + 64 < cLine) (hi : PE X i ty) (ho : PE X o td) : PC X .In i o (tNIn X.prog X.w ty td) := by
  refine ⟨fun pins s σ H Q I h => ?_⟩
  refine thn (hi.run pins s σ H _ I h) fun iv s1 ⟨y, H1, I1, ry, q1⟩ => thn (ho.run pins s1 σ H1 _ I1 q1) fun u s2 ⟨x, H2, I2, rx, a, q, p, L, ex, ey, e, pk, pa, q2⟩ => ?_
  subst ex ey
  obtain rfl : u = Value.ref a := rx
  obtain rfl : iv = Value.ref q := ry
  exact n_in hu I2 e pk pa fun s3 I3 => ⟨.bl _, H2, I3, rfl, q2⟩
theorem pc_nnotin (hu : X.A.units + 64 < cLine) (hi : PE X i ty) (ho : PE X o td) : PC X .NotIn i o (tNNotIn X.prog X.w ty td) := by
  refine ⟨fun pins s σ H Q I h => ?_⟩
  refine thn (hi.run pins s σ H _ I h) fun iv s1 ⟨y, H1, I1, ry, q1⟩ => thn (ho.run pins s1 σ H1 _ I1 q1) fun u s2 ⟨x, H2, I2, rx, a, q, p, L, ex, ey, e, pk, pa, q2⟩ => ?_
  subst ex ey
  obtain rfl : u = Value.ref a := rx
  obtain rfl : iv = Value.ref q := ry
  exact n_notIn hu I2 e pk pa fun s3 I3 => ⟨.bl _, H2, I3, rfl, q2⟩
theorem ps_nput (hu : X.A.units + 64 < cLine) (ho : PE X o td) (hi : PE X i ty) (hv : PE X value tv) (hs : swapsWith value (some (.Subscript o i pos')) pos.line X.env = pure false) :
    PS X (.Assign [.Subscript o i pos'] value pos) (sNPut X.prog X.w td ty tv) := by
  refine ⟨fun pins s σ H D I h => ?_⟩
  refine wpAny_Assign_Subscript (thn (hv.run pins s σ H _ I h) fun r s1 ⟨v, H1, I1, rv, q1⟩ => thn (ho.run pins s1 σ H1 _ I1 q1) fun u s2 ⟨x, H2, I2, rx, q2⟩ => thn (hi.run pins s2 σ H2 _ I2 q2) fun iv s3 ⟨y, H3, I3, ry, a, q, p, L, ex, ey, e, pk, pa, no, z, q3⟩ => ?_) hs
  subst ex ey
  obtain rfl : u = Value.ref a := rx
  obtain rfl : iv = Value.ref q := ry
  exact n_setItem hu I3 e pk pa no z rv fun s4 I4 => ⟨σ, _, I4, q3⟩
theorem nd_empty {P : Program} {w : World} {H : Hp} (h : Heap) (hb : sysModules < h.objs.size) : ObjOk P w H (h.push { cls := .type "dict", data := .dict #[] }) h.objs.size (NDict P w h.objs.size []) :=
  nd_new ⟨beq_eq_false_iff_ne.mpr (Ne.symm (Nat.ne_of_lt hb)), Nat.zero_le _, List.nodup_nil, [], .nil, _, #[], 0, Heap.get?_push_size _ rfl, ⟨rfl, rfl, rfl⟩, rfl, rfl⟩
/-- {} -/
def tNNew (P : Program) (w : World) : TE := fun _ H Q => ∀ p, H p = none → Q (.ref p) (upd H p (NDict P w p []))
theorem pe_nnew : PE X (.Dict [] [] pos) (tNNew X.prog X.w) := ⟨fun pins s σ H Q I h => by
  exact wpAny_Dict_empty ⟨.ref s.heap.objs.size, _, I.laid (a := s.heap.objs.size) (o := NDict X.prog X.w s.heap.objs.size []) (t' := s.toks) (fun _ _ q => Heap.get?_push_of_some _ q) (Nat.le_refl _) (nd_empty s.heap I.big), rfl, h _ (I.hok.fresh (Nat.le_refl _))⟩⟩
/-- len(d) -/
theorem call_lenN : CallR X (.builtin "len") (fun xs H Q => ∃ a L, xs = [V.ref a] ∧ Rd H a (NDict X.prog X.w a L) ∧ PrKeys H L ∧ Q (.int L.length) H) := by
  intro pins s σ H xs us Q I r h
  obtain ⟨a, L, rfl, e, pk, q⟩ := h
  rw [Vals.ref1 r]
  obtain ⟨hd, z, _, xs, rel, dd⟩ := nd_of I.hok e pk
  have hl := pr_len rel
  refine call_len_dictH hd dd (by rw [← hl]; rw [sizeLine_eq] at z; omega) ?_
  rw [← hl]
  exact ⟨.int L.length, H, I.tok _, ⟨_, rfl⟩, q⟩
/-- the keys as they stand -/
theorem nd_raw {H : Hp} {s : Shared} {P : Program} {w : World} (ok : HOk P w H s.heap) {a : Addr} {L : List Ent} (e : Rd H a (NDict P w a L)) : (a == sysModules) = false ∧ L.length ≤ sizeLine ∧ ∃ es ep, s.heap.DictRaw a es ep ∧ es.size = L.length ∧ ∀ (i : Nat) (hi : i < es.size), ∃ l, L[i]? = some l ∧ es[i].key = .ref l.2.1 := by
  obtain ⟨z1, z2, z3, xs, z4, o, es, ep, ho, z5, z6, z7⟩ := (show NdR P w a L s.heap from (show ObjOk P w H s.heap a (NDict P w a L) from rd_of ok e).1)
  have hl : es.size = L.length := by
    have := congrArg List.length z7
    rw [Array.length_toList, List.length_map] at this
    rw [this, pr_len z4]
  refine ⟨z1, z2, es, ep, ⟨o, ho, z5, z6⟩, hl, fun i hi => ?_⟩
  have hx : L[i]? = some (L[i]'(by omega)) := List.getElem?_eq_getElem _
  obtain ⟨x, hx1, hx2⟩ := L2.paired_get z4 hx
  refine ⟨_, hx, ?_⟩
  have e2 : es[i]? = some (entryOfKey (nestedKind P w) x) := by rw [entry_at z7, hx1]; rfl
  rw [Array.getElem?_eq_getElem hi] at e2
  rw [Option.some.inj e2]
  show Value.ref x.2.1 = _
  rw [hx2.2.1]
theorem refs_items {L : List Ent} {es : Array DictEntry} {acc : Array Value} (hl : es.size = L.length) (hk : ∀ (i : Nat) (hi : i < es.size), ∃ l, L[i]? = some l ∧ es[i].key = .ref l.2.1) (h : ItemsOf (fun i v => ∃ hi : i < es.size, v = es[i].key) acc es.size) : acc.toList = L.map fun l => Value.ref l.2.1 := by
  refine List.ext_getElem? fun i => ?_
  by_cases c : i < es.size
  · obtain ⟨l, h1, h2⟩ := hk i c
    have hc : i < acc.size := by rw [h.1]; exact c
    obtain ⟨_, e⟩ := h.2 i acc[i] (Array.getElem?_eq_getElem hc)
    rw [List.getElem?_map, h1, Array.getElem?_toList, Array.getElem?_eq_getElem hc, e, h2]
    rfl
  · have h1 : L[i]? = none := List.getElem?_eq_none (by omega)
    have h2 : acc[i]? = none := Array.getElem?_eq_none (by have := h.1; omega)
    rw [List.getElem?_map, h1, Array.getElem?_toList, h2]
    rfl
theorem vals_refs : ∀ L : List Ent, Vals (L.map fun l => V.ref l.2.1) (L.map fun l => Value.ref l.2.1)
  | [] => .nil
  | l :: L => .cons rfl (vals_refs L)
/-- list(d) -/
theorem call_listN (hc : X.calm = true) : CallR X (.type "list") (fun xs H Q => ∃ a L, xs = [V.ref a] ∧ Rd H a (NDict X.prog X.w a L) ∧ ∀ p, H p = none → Q (.ref p) (upd H p (.lst (L.map fun l => V.ref l.2.1)))) := by
  intro pins s σ H xs us Q I r h
  obtain ⟨a, L, rfl, e, q⟩ := h
  rw [Vals.ref1 r]
  obtain ⟨hd, z, es, ep, raw, hl, hk⟩ := nd_raw I.hok e
  refine kdl_call (KdlSrc.rawDict (prog := X.prog) (w := X.w) (es := es) (ep := ep) hd) (I.ok.hd hc) raw (by rw [hl]; exact z) fun h' tk acc c k hg hacc => ?_
  have eacc := refs_items hl hk hacc
  refine ⟨.ref s.heap.objs.size, upd H s.heap.objs.size (.lst (L.map fun l => V.ref l.2.1)), I.laid (t' := tk) k (Nat.le_refl _) ⟨by rw [List.length_map]; exact z, acc.toList, c, by rw [eacc]; exact vals_refs L, by simpa using hg⟩, rfl, q _ (I.hok.fresh (Nat.le_refl _))⟩
/-- a pair as data -/
def dPr (p : Pr) : PyData := .tuple [.int p.1, .tuple (p.2.map .str)]
theorem prAt_dp {K : PySem.W.Frag} {H : Hp} {q : Addr} {p : Pr} (h : PrAt H q p) : Dp K H (.ref q) (dPr p) := by
  obtain ⟨q2, h1, h2⟩ := h
  refine .tup (SqT.of h1) (.cons (.int _) (.cons (.tup (SqT.of h2) ?_) .nil))
  induction p.2 with
  | nil => exact .nil
  | cons a r ih => exact .cons (.str a) ih
theorem alike_strs : ∀ a b : List Str, alikeAll (a.map PyData.str) (b.map PyData.str) = true
  | [], _ => by cases ‹List Str› <;> rfl
  | _ :: _, [] => rfl
  | x :: r, y :: t => by
    show (true && alikeAll (r.map PyData.str) (t.map PyData.str)) = true
    rw [alike_strs r t]
    rfl
theorem pr_alike (L : List Pr) : AllAlike (L.map dPr) := AllAlike.of fun p q => by
  show (true && (alikeAll (p.2.map PyData.str) (q.2.map PyData.str) && true)) = true
  rw [alike_strs]
  rfl
theorem pr_sortable (L : List Pr) : Sortable (L.map dPr) := Sortable.tuples fun p => ⟨_, _, rfl⟩
theorem depth_strs (l : List Str) : PyData.depthAll (l.map PyData.str) = 0 := by
  induction l with
  | nil => rfl
  | cons a r ih =>
    rw [List.map_cons]
    show max 0 _ = 0
    rw [ih]
    rfl
theorem pr_ddepth (p : Pr) : (dPr p).depth ≤ 8 := by
  show max 0 (max (PyData.depthAll (p.2.map PyData.str) + 1) 0) + 1 ≤ 8
  rw [depth_strs]
  decide
abbrev srtPr (L : List Pr) : List Pr := L.mergeSort (dataLe false dPr)
/-- sorted(d) -/
theorem cr_srtN (hc : X.calm = true) (hu : X.A.units + 64 < cLine) : CallR X (.builtin "sorted") (fun xs H Q => ∃ a L, xs = [V.ref a] ∧ Rd H a (NDict X.prog X.w a L) ∧ PrKeys H L ∧ L.length ≤ 100000 ∧
    ∀ ys p, Paired (fun (x : V) (p : Pr) => ∃ q, x = .ref q ∧ PrAt H q p) ys (srtPr (L.map (·.1))) → H p = none → Q (.ref p) (upd H p (.lst ys))) := by
  intro pins s σ H xs us Q I r h
  obtain ⟨a, L, rfl, e, pk, hL, q⟩ := h
  rw [Vals.ref1 r]
  obtain ⟨hd, z, es, ep, raw, hl, hk⟩ := nd_raw I.hok e
  have hR : Paired (fun (x : V) (p : Pr) => ∃ q, x = .ref q ∧ PrAt H q p) (L.map fun l => V.ref l.2.1) (L.map (·.1)) := by
    clear q z hk hl
    have : ∀ M : List Ent, (∀ l ∈ M, PrAt H l.2.1 l.1) → Paired (fun (x : V) (p : Pr) => ∃ q, x = .ref q ∧ PrAt H q p) (M.map fun l => V.ref l.2.1) (M.map (·.1)) := fun M => by
      induction M with
      | nil => intro _; exact .nil
      | cons l M ih => intro h; exact .cons ⟨_, rfl, h l List.mem_cons_self⟩ (ih fun l hl => h l (List.mem_cons_of_mem _ hl))
    exact this L pk
  refine sorted_core (enc := dPr) (R := fun v p => ∃ x, RelV x v ∧ ∃ q, x = .ref q ∧ PrAt H q p) (bs0 := L.map (·.1)) (fun z => z = L.map (·.1)) (fun z e => by rw [e]) (fun Q1 E1 h1 => ?_) (pr_alike _) (pr_sortable _) (by rw [List.length_map]; exact hL) (fun b hb => by have := pr_ddepth b; omega) fun s1 s' p out c bs' eb k1 k g o hp hg e => ?_
  · refine kdu_collect (A := X.A.in1) (KdlSrc.rawDict (prog := X.prog) (w := X.w) (es := es) (ep := ep) hd) (show X.A.in1.handled = none from I.ok.hd hc) raw (by rw [hl]; exact z) fun h' tk acc k hacc => ?_
    have eacc := refs_items hl hk hacc
    have hv : Vals (L.map fun l => V.ref l.2.1) acc.toList := by rw [eacc]; exact vals_refs L
    refine h1 _ _ _ rfl k rfl rfl (vals_each hv hR) ?_
    have hd2 : DpAll X.K H (L.map fun l => V.ref l.2.1) ((L.map (·.1)).map dPr) := by
      clear hv eacc hacc hR q z hk hl h1
      have : ∀ M : List Ent, (∀ l ∈ M, PrAt H l.2.1 l.1) → DpAll X.K H (M.map fun l => V.ref l.2.1) ((M.map (·.1)).map dPr) := fun M => by
        induction M with
        | nil => intro _; exact .nil
        | cons l M ih => intro h; exact .cons (prAt_dp (h l List.mem_cons_self)) (ih fun l hl => h l (List.mem_cons_of_mem _ hl))
      exact this L pk
    obtain ⟨as, rd⟩ := Dp.readsAll I _ _ _ hd2 hv
    exact (readsAll_each dPr rd).mono fun v b ⟨as, r⟩ => ⟨as, PyProof.Rows.Reads.keeps k r⟩
  · subst eb
    obtain ⟨ys, h1, h2⟩ := each_vals e
    exact fin_list I k1 k g o hp hg h1 (by rw [pr_len h2, List.length_mergeSort, List.length_map]; exact z) (q ys p h2)
end
end K02
set_option Elab.async false
set_option linter.all false
set_option maxRecDepth 100000
set_option maxHeartbeats 4000000
/-! Dict comprehensions of any dict: z0 the new dict's content, put what d[k] = v does. After HandS.DictComp. -/
namespace K02
open PySem PySem.Spec PyProof.Rows L2
def tDcG (z0 : Addr → HO) (put : Hp → Addr → V → V → Hp → Prop) (wi : TI) (g : TG) (tt : TT) (tk tv : TE) (vs : List Nat) : TE := fun σ H Q => wi σ H fun J H1 => ∀ D, H1 D = none → ∃ W : Nat → Nat → Hp → Prop, (∃ m, W 0 m (upd H1 D (z0 D))) ∧ ∀ i m H, W i m H →
  (J.stop i H ∧ Q (.ref D) H) ∨ (J.go i H ∧ ∃ Nx : Hp → Prop, (∀ H', Nx H' → ∃ m', m' < m ∧ W (i + 1) m' H') ∧ ∀ x H', J.yld i H x H' → g x (wipe σ vs) H' fun σ2 H2 => wipe σ2 vs = wipe σ vs ∧ tt σ2 H2 fun b H3 =>
    if b = true then tk σ2 H3 fun y H4 => tv σ2 H4 fun z H5 => ∃ H6, put H5 D y z H6 ∧ Nx H6 else Nx H3)
def DSet (X : Cx) (put : Hp → Addr → V → V → Hp → Prop) : Prop := ∀ (Y : Cx), Y.prog = X.prog → Y.w = X.w → Y.A = X.A → ∀ (pins : List (Addr × Obj)) (σ : L2.St) (H : Hp) (s : Shared) (D : Addr) (y z : V) (u r : Value) (H6 : Hp),
  Inv Y pins σ H s → put H D y z H6 → RelV y u → RelV z r → ∀ (Q : Unit → Shared → Prop) (E : Value → Shared → Prop), (∀ s', Inv Y pins σ H6 s' → Q () s') → wpAny (model Y.prog Y.w) Y.A (dictSet D u r) Q E s
section
variable {X : Cx}
theorem dcg_core {pins : List (Addr × Obj)} {s : Shared} {σ : L2.St} {H : Hp} {Q : VK} {kx vx tg iter : Expr} {ifs : List Expr} {scope : Scope} {own : List (Str × Nat)} {pos pos' : Pos} {wi : TI} {g : TG} {tt : TT} {tk tv : TE} {use : Option (Value → Sem Unit)} {Qf : Value → Shared → Prop} {z0 : Addr → HO} {put : Hp → Addr → V → V → Hp → Prop}
    (new : ∀ (H : Hp) (h : Heap), sysModules < h.objs.size → ObjOk X.prog X.w H (h.push { cls := .type "dict", data := .dict #[] }) h.objs.size (z0 h.objs.size)) (dset : DSet X put)
    (hc : X.calm = true) (hN : X.N.Nodup) (I : Inv X pins σ H s) (hi : PI X tg iter wi) (ok : BlkOk X.N X.env.scope scope own)
    (hg : ∀ (s : Shared) (H : Hp) (C : Addr) (cl : List (Str × Addr)) (fp : List Addr), PG (X.blk s H scope (compEnvC scope cl C X.env) fp) tg g) (ht : ∀ (s : Shared) (H : Hp) (C : Addr) (cl : List (Str × Addr)) (fp : List Addr), PTs (X.blk s H scope (compEnvC scope cl C X.env) fp) ifs tt)
    (hk : ∀ (s : Shared) (H : Hp) (C : Addr) (cl : List (Str × Addr)) (fp : List Addr), PE (X.blk s H scope (compEnvC scope cl C X.env) fp) kx tk)
    (he : ∀ (s : Shared) (H : Hp) (C : Addr) (cl : List (Str × Addr)) (fp : List Addr), PE (X.blk s H scope (compEnvC scope cl C X.env) fp) vx tv) (hs : ∀ x, foldedSetIterable iter X.env x = pure x)
    (h : tDcG z0 put wi g tt tk tv (own.map (·.2)) σ H Q)
    (hRR : ∀ D C s' m H', Inv X pins σ H' s' → Q (.ref D) H' → s'.heap.Ns C m → FpOk X pins H' C → compPost (model X.prog X.w) X.A X.xe use Qf (.ref D) C (.ok .next) s') :
    wpAny (model X.prog X.w) X.A (comprehension (.DictComp kx vx [⟨tg, iter, ifs, 0⟩] scope pos) scope X.env pos' newDict false (eval iter X.env) use) Qf X.xe s := by
  have hfree : ∀ y ∈ scope.names, y.2 = .free → ∃ c, X.env.cells.lookup y.1 = some c := fun y hy e => by
    rcases ok.free y hy e with k | k
    · exact I.ok.has _ (.inl k)
    · exact I.ok.has _ (.inr k)
  refine wpAny_comprehension_free (use := use) rfl hs (closure_ok hfree) ok.kind (fun y hy e => by rw [ok.uniq y hy, e])
    (thn (hi.run pins s σ H _ I h) fun xv s1 hx => thn hx fun itv s2 h2 => ?_)
  obtain ⟨it, fp, tn, J, H2, e, I2, T, st2, f2, q⟩ := h2
  subst e
  refine wpAny_newObj_type (newEnv_comp ?_)
  generalize hD : s2.heap.objs.size = D
  have hDn : H2 D = none := I2.hok.fresh (Nat.le_of_eq hD)
  obtain ⟨W, ⟨m0, w0⟩, turn⟩ := q D hDn
  -- the new list
  generalize hs3 : ({ s2 with heap := s2.heap.push { cls := .type "dict", data := .dict #[] } } : Shared) = s3
  have I3 : Inv X pins σ (upd H2 D (z0 D)) s3 := by
    rw [← hs3]
    refine I2.laid (t' := s2.toks) (fun b o e => Heap.get?_push_of_some _ e) (Nat.le_of_eq hD) ?_
    rw [← hD]
    exact new _ s2.heap I2.big
  have h3 : s3.heap = s2.heap.push { cls := .type "dict", data := .dict #[] } := by rw [← hs3]
  have sz : ∀ b ∈ fp, b < s2.heap.objs.size := fun b hb => by
    obtain ⟨o, e, _⟩ := T.obj _ _ st2 b hb
    exact Heap.lt_size e
  have f3 : ∀ b ∈ fp, FpOk X pins (upd H2 D (z0 D)) b ∧ b < s3.heap.objs.size := fun b hb => by
    have hlt := sz b hb
    refine ⟨⟨?_, (f2 b hb).2⟩, by rw [h3, Heap.size_push]; exact Nat.lt_succ_of_lt hlt⟩
    rw [upd_ne (by rw [← hD]; exact Nat.ne_of_lt hlt)]
    exact (f2 b hb).1
  have st3 : tn 0 s3.heap := T.keep _ _ _ st2 fun b _ o e => by rw [h3]; exact Heap.get?_push_of_some _ e
  have I4 := block_start I3 ok hN f3
  have pg := hg s3 (upd H2 D (z0 D)) s3.heap.objs.size (cellsFrom (s3.heap.objs.size + 1) scope.names (cloFrom X.env.cells scope.names [])) fp
  have pt := ht s3 (upd H2 D (z0 D)) s3.heap.objs.size (cellsFrom (s3.heap.objs.size + 1) scope.names (cloFrom X.env.cells scope.names [])) fp
  have pk := hk s3 (upd H2 D (z0 D)) s3.heap.objs.size (cellsFrom (s3.heap.objs.size + 1) scope.names (cloFrom X.env.cells scope.names [])) fp
  have pe := he s3 (upd H2 D (z0 D)) s3.heap.objs.size (cellsFrom (s3.heap.objs.size + 1) scope.names (cloFrom X.env.cells scope.names [])) fp
  show codeAny _ _ (.compStart (.DictComp kx vx [⟨tg, iter, ifs, 0⟩] scope pos) 0 (.ref it) (.ref D) (compEnvC scope (cellsFrom (s3.heap.objs.size + 1) scope.names (cloFrom X.env.cells scope.names [])) s3.heap.objs.size X.env)) (compPost (model X.prog X.w) X.A X.xe use Qf (.ref D) s3.heap.objs.size) { s3 with heap := pushCells (s3.heap.push { cls := .type "dict", data := .dict #[] }) scope.names }
  have nfp : ∀ b ∈ fp, (upd H2 D (z0 D)) b = none := fun b hb => (f3 b hb).1.1
  generalize hce : compEnvC scope (cellsFrom (s3.heap.objs.size + 1) scope.names (cloFrom X.env.cells scope.names [])) s3.heap.objs.size X.env = ce at I4 pg pt pk pe ⊢
  have cL : ce.locals = s3.heap.objs.size := by subst hce; rfl
  generalize hH3 : upd H2 D (z0 D) = H3 at I3 I4 pg pt pk pe w0 nfp f3
  generalize hs4 : ({ s3 with heap := pushCells (s3.heap.push { cls := .type "dict", data := .dict #[] }) scope.names } : Shared) = s4 at I4 ⊢
  have st4 : tn 0 s4.heap := T.keep _ _ _ st3 fun b _ o e => by rw [← hs4]; exact pushCells_keeps _ _ _ _ (Heap.get?_push_of_some _ e)
  have stat : ∀ {σ' : L2.St} {H' : Hp} {s' : Shared}, Inv (X.blk s3 H3 scope ce fp) [] σ' H' s' → (∀ b ∈ fp, H' b = none) → ∀ b ∈ fp, FpOk (X.blk s3 H3 scope ce fp) [] H' b := fun {σ' H' s'} I' hn b hb =>
    ⟨hn b hb, (I'.ok.exf b hb).1, I'.ok.exfs b hb, .inl hb, fun x c e => (I'.ok.exf b hb).2 x c e, fun p hp => absurd (show p ∈ ([] : List (Addr × Obj)) ++ [] from hp) (by simp)⟩
  have loop : codeAny (model X.prog X.w) X.A (.compLoop (.DictComp kx vx [⟨tg, iter, ifs, 0⟩] scope pos) 0 (.ref it) (.ref D) ce) (compPost (model X.prog X.w) X.A X.xe use Qf (.ref D) s3.heap.objs.size) s4 := by
    refine compLoop_anyD (fun n s' => ∃ i H', Inv (X.blk s3 H3 scope ce fp) [] (wipe σ (own.map (·.2))) H' s' ∧ tn i s'.heap ∧ (∀ b ∈ fp, H' b = none) ∧ W i n H') ?_ m0 ⟨0, H3, I4, st4, nfp, w0⟩
    rintro n s5 ⟨i, H5, I5, st5, n5, w5⟩
    rcases turn i n H5 w5 with ⟨stop, qq⟩ | ⟨go, Nx, hNx, step⟩
    · have td := T.done (X.blk s3 H3 scope ce fp) rfl rfl rfl hc i [] s5 _ H5 (fun _ _ => False) I5 (stat I5 n5) st5 stop
      refine thnF td fun r s6 ⟨hr, I6⟩ => ?_
      subst hr
      -- back in the def's context
      have I7 : Inv X pins σ H5 s6 := I3.call' (ch := fp) I6.os I6.base I6.hok I6.bare fun b hb => ⟨(f3 b hb).1.2.2.2.1, (f3 b hb).1.2.1, (f3 b hb).1.2.2.2.2.1, (f3 b hb).1.2.2.2.2.2⟩
      have nC : H5 s3.heap.objs.size = none := by
        have z : H5 ce.locals = none := I6.free
        rw [cL] at z
        exact z
      obtain ⟨m, hn, _⟩ := I6.loc
      have hn : s6.heap.Ns ce.locals m := hn
      rw [cL] at hn
      exact hRR D s3.heap.objs.size s6 m H5 I7 qq hn (I3.fpOk (Nat.le_refl _) nC)
    · have ti := T.item (X.blk s3 H3 scope ce fp) rfl rfl rfl hc i [] s5 _ H5 (fun _ _ => False) I5 (stat I5 n5) st5 go
      refine thnF ti fun r s6 ⟨u, hr, h6⟩ => ?_
      subst hr
      refine thnF h6 fun _ s7 ⟨x, H7, I7, r7, y7, st7, n7⟩ => ?_
      have I7' := I7.pinned (stat I7 n7) (T.obj _ _ st7)
      refine thnF (pg.run _ s7 _ H7 x u _ I7' r7 (step x H7 y7)) fun _ s8 ⟨σ8, H8, I8, hw8, q8⟩ => ?_
      refine thnF (pt.run _ s8 σ8 H8 _ I8 q8) fun b s9 ⟨H9, I9, q9⟩ => ?_
      -- the turn's end
      have fin : ∀ {s' : Shared} {H' : Hp}, Inv (X.blk s3 H3 scope ce fp) ([] ++ pinsAt fp s7.heap) σ8 H' s' → Nx H' → ∃ m, m < n ∧ ∃ i H', Inv (X.blk s3 H3 scope ce fp) [] (wipe σ (own.map (·.2))) H' s' ∧ tn i s'.heap ∧ (∀ b ∈ fp, H' b = none) ∧ W i m H' := fun {s' H'} I' nx => by
        obtain ⟨m', hm, w'⟩ := hNx H' nx
        have pin' : ∀ b ∈ fp, ∀ o, s7.heap.get? b = some o → s'.heap.get? b = some o ∧ H' b = none := fun b hb o e =>
          let z := I'.pin (b, o) (List.mem_append_right _ (List.mem_append_right _ (mem_pinsAt hb e)))
          ⟨z.1, z.2.1⟩
        have hl : (wipe σ (own.map (·.2))).length = σ8.length := by rw [← hw8, wipe_length]
        refine ⟨m', hm, i + 1, H', (I'.unpinned (pins := [])).weak hl (fun j v e => ?_), T.keep _ _ _ st7 fun b hb o e => (pin' b hb o e).1, fun b hb => ?_, w'⟩
        · rw [← hw8] at e
          exact (wipe_some e).1
        · obtain ⟨o, e, _⟩ := T.obj _ _ st7 b hb
          exact (pin' b hb o e).2
      cases b with
      | false =>
        simp only [Bool.false_eq_true, if_false] at q9 ⊢
        exact fin I9 q9
      | true =>
        simp only [if_true] at q9 ⊢
        refine thnF (pk.run _ s9 σ8 H9 _ I9 q9) fun z s10 ⟨yk, H10, I10, r10, q10⟩ => ?_
        refine thnF (pe.run _ s10 σ8 H10 _ I10 q10) fun z2 s11 ⟨yv, H11, I11, r11, H12, pt12, nx⟩ => ?_
        exact dset (X.blk s3 H3 scope ce fp) rfl rfl rfl _ _ _ _ _ _ _ _ _ _ I11 pt12 r10 r11 _ _ fun s12 I12 => fin I12 nx
  exact codeAny_compStart_dict loop (T.self X.A 0 _ _ _ st4 loop)
theorem pe_dcg {kx vx tg iter : Expr} {ifs : List Expr} {scope : Scope} {own : List (Str × Nat)} {pos : Pos} {wi : TI} {g : TG} {tt : TT} {tk tv : TE} {z0 : Addr → HO} {put : Hp → Addr → V → V → Hp → Prop}
    (new : ∀ (H : Hp) (h : Heap), sysModules < h.objs.size → ObjOk X.prog X.w H (h.push { cls := .type "dict", data := .dict #[] }) h.objs.size (z0 h.objs.size)) (dset : DSet X put) (hc : X.calm = true) (hN : X.N.Nodup) (hi : PI X tg iter wi) (ok : BlkOk X.N X.env.scope scope own)
    (hg : ∀ (s : Shared) (H : Hp) (C : Addr) (cl : List (Str × Addr)) (fp : List Addr), PG (X.blk s H scope (compEnvC scope cl C X.env) fp) tg g) (ht : ∀ (s : Shared) (H : Hp) (C : Addr) (cl : List (Str × Addr)) (fp : List Addr), PTs (X.blk s H scope (compEnvC scope cl C X.env) fp) ifs tt)
    (hk : ∀ (s : Shared) (H : Hp) (C : Addr) (cl : List (Str × Addr)) (fp : List Addr), PE (X.blk s H scope (compEnvC scope cl C X.env) fp) kx tk)
    (he : ∀ (s : Shared) (H : Hp) (C : Addr) (cl : List (Str × Addr)) (fp : List Addr), PE (X.blk s H scope (compEnvC scope cl C X.env) fp) vx tv) (hs : ∀ x, foldedSetIterable iter X.env x = pure x := by intro _; rfl) :
    PE X (.DictComp kx vx [⟨tg, iter, ifs, 0⟩] scope pos) (tDcG z0 put wi g tt tk tv (own.map (·.2))) := by
  refine ⟨fun pins s σ H Q I h => ?_⟩
  rw [arm_eval_DictComp]
  refine dcg_core new dset hc hN I hi ok hg ht hk he hs h fun D C s' m H' I' q hn f => ⟨m, hn, fun h'' sb => ?_⟩
  obtain ⟨f0, f1, f2, f3, f4, f5⟩ := f
  exact ⟨.ref D, H', I'.turned (t' := s'.toks) (fun b o hb e => (sb.2 b hb).trans e) f0 f1 f3 f4 f5, rfl, q⟩
end
end K02
set_option Elab.async false
set_option linter.all false
set_option maxRecDepth 100000
set_option maxHeartbeats 4000000
/-! Dicts with tuple keys: their values walked, their comprehension; the same for pairs; sorted keys; two fors in one comprehension. -/
namespace K02
open PySem PySem.Spec PyProof.Rows L2 PySem.W
/-! ### the values of a dict with tuple keys -/
section
variable {X : Cx} {pins : List (Addr × Obj)} {σ : Sl} {H : Hp} {s : Shared} {d : Addr} {o : Obj}
theorem rd_raw {P : Program} {w : World} {kvs : List (List Key × V)} (ok : HOk P w H s.heap) (h : Rd H d (.dT kvs)) : (d == sysModules) = false ∧ kvs.length ≤ sizeLine ∧ ∃ (es : Array DictEntry) (ep : Nat), s.heap.DictRaw d es ep ∧ es.size = kvs.length ∧
    ∀ (i : Nat) (k : List Key) (v : V), kvs[i]? = some (k, v) → ∃ (en : DictEntry) (q : Addr), es[i]? = some en ∧ en.key = .ref q ∧ H q = some (.tup (k.map kV)) ∧ RelV v en.val := by
  obtain ⟨z, hd, xs, pr, o', es, ep, ho, hx, hdt, he, _⟩ := (show ObjOk P w H s.heap d (.dT kvs) from rd_of ok h)
  refine ⟨hd, z, es, ep, ⟨o', ho, hx, hdt⟩, ?_, fun i k v e => ?_⟩
  · have l1 := congrArg List.length he
    rw [Array.length_toList, List.length_map] at l1
    have l2 : kvs.length = xs.length := Paired.length pr
    omega
  · obtain ⟨b, hb, e1, e2, e3⟩ := L2.paired_get pr e
    have q := entry_at he i
    rw [hb] at q
    exact ⟨_, b.2.1, q, rfl, e2, e3⟩
def ItdT (d : Addr) (o : Obj) (kvs : List (List Key × V)) : It :=
  ⟨fun i H => H d = some (.frz o (.dT kvs)) ∧ i < kvs.length, fun i H x H' => H' = H ∧ ∃ k, kvs[i]? = some (k, x), fun i H => H d = some (.frz o (.dT kvs)) ∧ kvs.length ≤ i⟩
theorem frz_raw {kvs : List (List Key × V)} (I : Inv X pins σ H s) (h : H d = some (.frz o (.dT kvs))) : (d == sysModules) = false ∧ ∃ (es : Array DictEntry) (ep : Nat), o.data = .dict es ep ∧ s.heap.DictRaw d es ep ∧ es.size = kvs.length ∧
    ∀ (i : Nat) (k : List Key) (v : V), kvs[i]? = some (k, v) → ∃ (en : DictEntry), es[i]? = some en ∧ RelV v en.val := by
  obtain ⟨hd, _, es, ep, raw, hl, he⟩ := rd_raw I.hok (.inr ⟨o, h⟩)
  obtain ⟨ho, _⟩ := I.hok d _ h
  obtain ⟨o', ho', hx, hdt⟩ := id raw
  rw [ho] at ho'
  cases ho'
  refine ⟨hd, es, ep, hdt, raw, hl, fun i k v e => ?_⟩
  obtain ⟨en, q, h1, _, _, h2⟩ := he i k v e
  exact ⟨en, h1, h2⟩
theorem turn_valsT {P : Program} {w : World} {K : PySem.W.Frag} {tg : Expr} {kvs : List (List Key × V)} {es : Array DictEntry} {ep : Nat} (it : Addr) (hod : o.data = .dict es ep) : Turn P w K tg (ItdT d o kvs) [it] it (fun i h => h.IsValIter it d i kvs.length ep) where
  mem := by simp
  obj := fun i h st b hb => by
    have e : b = it := by simpa using hb
    subst e
    obtain ⟨oi, e, c, dd⟩ := st
    exact ⟨oi, e, fun v z => by rw [dd] at z; cases z⟩
  keep := fun i h h' st k => st.at fun oi e => k it (by simp) oi e
  item := by
    intro X hP hw hK hc i pins s σ H E I hf st hg
    subst hP hw hK
    obtain ⟨hd, hi⟩ := hg
    obtain ⟨f0, f1, f2, f3, f4, f5⟩ := hf it (by simp)
    obtain ⟨hs, es', ep', hdt, raw, hsz, hv⟩ := frz_raw I hd
    obtain ⟨rfl, rfl⟩ := dict_ep hod hdt
    obtain ⟨⟨k, v⟩, hkv⟩ : ∃ p, kvs[i]? = some p := ⟨kvs[i], List.getElem?_eq_getElem hi⟩
    obtain ⟨en, he, ru⟩ := hv i k v hkv
    have hi2 : i < es'.size := by rw [hsz]; exact hi
    have een : es'[i] = en := by
      rw [Array.getElem?_eq_getElem hi2] at he
      exact Option.some.inj he
    rw [← hsz] at st
    refine wpAny_pyNext_values_item_raw st raw hi2 fun h' st' sb => ?_
    have I1 : Inv X pins σ H { s with heap := h' } := I.turned (t' := s.toks) (fun b ob hb e => (sb.2 b hb).trans e) f0 f1 f3 f4 f5
    obtain ⟨oi, e, c, dd⟩ := id st'
    refine ⟨_, rfl, go_of (s := { s with heap := h' }) e c dd (by decide) ⟨v, H, I1, by rw [een]; exact ru, ⟨rfl, k, hkv⟩, ?_, fun b hb => (hf b hb).1⟩⟩
    show h'.IsValIter it d (i + 1) kvs.length _
    rw [← hsz]
    exact st'
  done := by
    intro X hP hw hK hc i pins s σ H E I hf st hg
    subst hP hw hK
    obtain ⟨hd, hi⟩ := hg
    obtain ⟨f0, f1, f2, f3, f4, f5⟩ := hf it (by simp)
    obtain ⟨hs, es', ep', hdt, raw, hsz, hv⟩ := frz_raw I hd
    obtain ⟨rfl, rfl⟩ := dict_ep hod hdt
    rw [← hsz] at st
    exact wpAny_pyNext_values_end_raw (I.ok.hd hc) st raw (by omega) fun h' eb => ⟨rfl, I.turned (t' := s.toks) (fun b ob hb e => eb b ob hb e) f0 f1 f3 f4 f5⟩
  self := fun A i s Q E st h => wpAny_pyIter_valiter st h
def iValsT (td : TE) : TI := fun σ H R => td σ H fun x H1 => ∃ d o kvs, x = .ref d ∧ H1 d = some (.frz o (.dT kvs)) ∧ R (ItdT d o kvs) H1
theorem pi_valuesT {tg e : Expr} {td : TE} {apos cpos : Pos} (he : PE X e td) (hbase : attributeBase e "values" X.env (eval e X.env) = eval e X.env := by rfl) (hline : (apos.endLine == cpos.line) = true := by rfl) : PI X tg (.Call (.Attribute e "values" apos) [] [] cpos) (iValsT td) := by
  refine ⟨fun pins s σ H R I h => ?_⟩
  refine wpAny_Call_method (T := "dict") (id := "dict.values") hbase rfl hline PySem.F.plainAttrs_dict PySem.F.slot_dict_values PySem.F.type_dict_values (thn (he.run pins s σ H _ I h) fun u s1 ⟨x, H1, I1, rx, d, o, kvs, ex, hd, q⟩ => ?_)
  subst ex
  obtain rfl : u = Value.ref d := rx
  obtain ⟨hs, es, ep, hdt, raw, hsz, hv⟩ := frz_raw I1 hd
  obtain ⟨o1, ho1, hx, hdt1⟩ := id raw
  refine ⟨raw.typeIs, fun b e => by cases e; exact ⟨o1, ho1, hx.2.1⟩, ?_⟩
  have I2 : Inv X pins σ H1 { s1 with heap := s1.heap.push { cls := .type "dict_values", data := .fields #[.ref d] } } := I1.kept (t' := s1.toks) fun b ob q => Heap.get?_push_of_some _ q
  have fin : wpAny (model X.prog X.w) X.A (pyIter (.ref s1.heap.objs.size)) (PIE X pins σ tg R) X.xe { s1 with heap := s1.heap.push { cls := .type "dict_values", data := .fields #[.ref d] } } := by
    refine wpAny_pyIter_values_raw (d := d) ⟨_, Heap.get?_push_size _ rfl, rfl, rfl⟩ (raw.at fun ob q => Heap.get?_push_of_some _ q) (pi_one (tk := s1.toks) I2 _ (turn_valsT _ hdt) ⟨_, Heap.get?_push_size _ rfl, rfl, ?_⟩ q)
    rw [hsz] <;> rfl
  show wpAny _ _ (callWith cpos (.builtin "dict.values") [.ref d] [] []) _ X.xe s1
  exact method_meetsIn PySem.F.slot_dict_values PySem.F.entry_dict_values rfl (PySem.evalArgs_none ⟨rfl, raw.typeIs, PySem.F.args_dict_values_1 _, _, meets_dict_values_raw d hs, ⟨es, ep, raw⟩, fin⟩)
theorem evi_valsT {td : TE} {D : Hp} {kvs : List (List Key × V)} {kts : List (List Key × Ty)} (p : Pu td σ D (.ref d)) (hd : D d = some (.frz o (.dT kvs))) (hv : KvsAt kts kvs D) : EvI0 (iValsT td) σ D (kts.map fun x => x.2) := fun D1 H k h R q =>
  p H (k.trans h).q _ ⟨d, o, kvs, rfl, (k.trans h).nl.mp hd, q _ D1 H (Grow.refl h) (by
    have l : kvs.length = kts.length := pr_len hv
    refine ⟨fun i H3 k3 hi => ⟨(k.trans k3).nl.mp hd, ?_⟩, fun H3 k3 => ⟨(k.trans k3).nl.mp hd, ?_⟩, fun i t D3 H3 y H4 k3 h3 e y4 => ?_⟩
    · rw [List.length_map] at hi
      omega
    · rw [List.length_map]
      omega
    · obtain ⟨e1, kk, e2⟩ := y4
      obtain ⟨t', e4, e5⟩ := kv_at hv e2
      rw [List.getElem?_map, e4] at e
      cases e
      exact ⟨e1, t'.up (k.trans k3).q e5⟩)⟩

/-! ### comprehensions -/
def putT : Hp → Addr → V → V → Hp → Prop := fun H a y v H' => ∃ kvs k b, H a = some (.dT kvs) ∧ y = .ref b ∧ H b = some (.tup (k.map kV)) ∧ kvs.length < sizeLine ∧ H' = upd H a (.dT (putK kvs k v))
theorem dset_T (hu : X.A.units + 64 < cLine) : DSet X putT := by
  intro Y hp hw hA pins σ H s D y z u r H6 I h ry rz Q E hQ
  obtain ⟨kvs, k, b, e, rfl, eb, l, rfl⟩ := h
  cases (show u = Value.ref b from ry)
  obtain ⟨zz, hd, xs, rel, dd⟩ := dt_of I.hok e
  have hz : xs.length ≤ sizeLine := by rw [← Paired.length rel]; exact zz
  have hl : (putK kvs k z).length ≤ sizeLine := by have := length_putK kvs k z; omega
  refine wpAny_dictSet_heap (hsz := hz) (by rw [hA]; exact (show X.A.units < cLine by omega)) (key_of I.hok eb) dd fun h' dd' hs => hQ _ ?_
  obtain ⟨q, es, ep, hq, h2, h3, h4, _, h5⟩ := dd'
  refine d_write I (by rw [e]; exact True.intro) hs ⟨q, hq⟩ ⟨hl, hd, _, (rel.put k eb rz).keeps fun c ys ec => ?_, q, es, ep, hq, h2, h3, h4, h5⟩
  rw [upd_ne (ne_of ec e (fun z => nomatch z))]
  exact ec
def putN (P : Program) (w : World) : Hp → Addr → V → V → Hp → Prop := fun H a y v H' => ∃ L p q, H a = some (NDict P w a L) ∧ y = .ref q ∧ PrKeys H L ∧ PrAt H q p ∧ p ∉ L.map (·.1) ∧ L.length < sizeLine ∧ H' = upd H a (NDict P w a (L ++ [(p, q, v)]))
theorem dset_N (hu : X.A.units + 64 < cLine) : DSet X (putN X.prog X.w) := by
  intro Y hp hw hA pins σ H s D y z u r H6 I h ry rz Q E hQ
  obtain ⟨L, p, q, e, rfl, pk, x, no, l, rfl⟩ := h
  cases (show u = Value.ref q from ry)
  rw [← hp, ← hw] at e hQ
  obtain ⟨hd, _, nd, xs, rel, dd⟩ := nd_of I.hok (.inl e) pk
  have hz : xs.length ≤ sizeLine := by rw [← pr_len rel]; exact Nat.le_of_lt l
  exact wpAny_dictSet_heap (hsz := hz) (by rw [hA]; exact (show X.A.units + 8 < cLine by omega)) (prAt_is I.hok x) dd fun h' dd' hs => hQ _ (n_put I e pk no l rz rel hd nd dd' hs)
/-- {k: v for ..}, keys tuples of ints, texts -/
theorem pe_dcT {kx vx tg iter : Expr} {ifs : List Expr} {scope : Scope} {own : List (Str × Nat)} {pos : Pos} {wi : TI} {g : TG} {tt : TT} {tk tv : TE} (hu : X.A.units + 64 < cLine) (hc : X.calm = true) (hN : X.N.Nodup) (hi : PI X tg iter wi) (ok : BlkOk X.N X.env.scope scope own)
    (hg : ∀ (s : Shared) (H : Hp) (C : Addr) (cl : List (Str × Addr)) (fp : List Addr), PG (X.blk s H scope (compEnvC scope cl C X.env) fp) tg g) (ht : ∀ (s : Shared) (H : Hp) (C : Addr) (cl : List (Str × Addr)) (fp : List Addr), PTs (X.blk s H scope (compEnvC scope cl C X.env) fp) ifs tt)
    (hk : ∀ (s : Shared) (H : Hp) (C : Addr) (cl : List (Str × Addr)) (fp : List Addr), PE (X.blk s H scope (compEnvC scope cl C X.env) fp) kx tk)
    (he : ∀ (s : Shared) (H : Hp) (C : Addr) (cl : List (Str × Addr)) (fp : List Addr), PE (X.blk s H scope (compEnvC scope cl C X.env) fp) vx tv) (hs : ∀ x, foldedSetIterable iter X.env x = pure x := by intro _; rfl) :
    PE X (.DictComp kx vx [⟨tg, iter, ifs, 0⟩] scope pos) (tDcG (fun _ => .dT []) putT wi g tt tk tv (own.map (·.2))) := pe_dcg (fun H h hb => dt_empty h hb) (dset_T hu) hc hN hi ok hg ht hk he hs
theorem pe_dcN {kx vx tg iter : Expr} {ifs : List Expr} {scope : Scope} {own : List (Str × Nat)} {pos : Pos} {wi : TI} {g : TG} {tt : TT} {tk tv : TE} (hu : X.A.units + 64 < cLine) (hc : X.calm = true) (hN : X.N.Nodup) (hi : PI X tg iter wi) (ok : BlkOk X.N X.env.scope scope own)
    (hg : ∀ (s : Shared) (H : Hp) (C : Addr) (cl : List (Str × Addr)) (fp : List Addr), PG (X.blk s H scope (compEnvC scope cl C X.env) fp) tg g) (ht : ∀ (s : Shared) (H : Hp) (C : Addr) (cl : List (Str × Addr)) (fp : List Addr), PTs (X.blk s H scope (compEnvC scope cl C X.env) fp) ifs tt)
    (hk : ∀ (s : Shared) (H : Hp) (C : Addr) (cl : List (Str × Addr)) (fp : List Addr), PE (X.blk s H scope (compEnvC scope cl C X.env) fp) kx tk)
    (he : ∀ (s : Shared) (H : Hp) (C : Addr) (cl : List (Str × Addr)) (fp : List Addr), PE (X.blk s H scope (compEnvC scope cl C X.env) fp) vx tv) (hs : ∀ x, foldedSetIterable iter X.env x = pure x := by intro _; rfl) :
    PE X (.DictComp kx vx [⟨tg, iter, ifs, 0⟩] scope pos) (tDcG (NDict X.prog X.w · []) (putN X.prog X.w) wi g tt tk tv (own.map (·.2))) := pe_dcg (z0 := fun a => NDict X.prog X.w a []) (fun H h hb => nd_empty h hb) (dset_N hu) hc hN hi ok hg ht hk he hs
end
section
variable {K : PySem.W.Frag} {σ : Sl} {D D' H : Hp} {te ta tk td tv : TE} {tt : TT} {t u : Ty} {ts : List Ty} {v : V}
/-- one turn of a dict comprehension of any dict: key and value stand, then it is put -/
def DgEl (g : TG) (tk tv : TE) (vs : List Nat) (σ : Sl) (D1 : Hp) (x : V) (kt t : Ty) : Prop :=
  ∀ H1, Kp D1 H1 → ∀ (QY : V → V → Hp → Prop) (QN : Hp → Prop), (∀ y z D2 H2, Grow D1 H1 D2 H2 → kt.p y D2 → t.p z D2 → QY y z H2) →
    g x (wipe σ vs) H1 fun σ2 H2 => wipe σ2 vs = wipe σ vs ∧ tYes σ2 H2 fun b H3 => if b = true then tk σ2 H3 fun y H4 => tv σ2 H4 fun z H5 => QY y z H5 else QN H3
theorem dgel {j : Nat} {vs : List Nat} {x : V} {kt : Ty} (hw : wipe ((wipe σ vs).set j (some x)) vs = wipe σ vs) (e1 : Ev tk ((wipe σ vs).set j (some x)) D kt) (e2 : Ev tv ((wipe σ vs).set j (some x)) D t) : DgEl (gName j) tk tv vs σ D x kt t := fun H1 h1 QY QN q =>
  ⟨hw, iteT (B := QN H1) (e1.use h1 fun y D2 H2 g2 hy => (e2.up g2.d).use g2.dh fun z D3 H3 g3 tz => q y z D3 H3 (g2.trans g3) (kt.up g3.d.q hy) tz)⟩
/-- the new dict's content keeps step: acc grows by one each turn -/
theorem ev_dcg {α β : Type} {z0 : Addr → HO} {put : Hp → Addr → V → V → Hp → Prop} {wi : TI} {g : TG} {vs : List Nat} {xs : List α} (τ : α → Ty) (key out : α → Ty) (ho : Addr → List β → HO) (soft : ∀ a acc, Soft (ho a acc)) (R : β → α → Hp → Prop) (Rup : ∀ {b a D D'}, Kq D D' → R b a D → R b a D')
    (h0 : ∀ a, z0 a = ho a []) (hput : ∀ H D0 a acc i x y z, xs[i]? = some x → Kp D0 H → D0 a = none → H a = some (ho a acc) → Paired (fun b x => R b x D0) acc (xs.take i) → (key x).p y D0 → (out x).p z D0 → ∃ b, R b x D0 ∧ put H a y z (upd H a (ho a (acc ++ [b]))))
    (hi : EvI wi σ D (xs.map τ)) (hel : ∀ a ∈ xs, ∀ D1, Kp D D1 → ∀ x, (τ a).p x D1 → DgEl g tk tv vs σ D1 x (key a) (out a)) :
    Ev (tDcG z0 put wi g tYes tk tv vs) σ D ⟨fun v H => ∃ a acc, v = .ref a ∧ Rd H a (ho a acc) ∧ Paired (fun b x => R b x H) acc xs, fun {v H H'} k ⟨a, acc, e, h, r⟩ => ⟨a, acc, e, k.sf (soft a acc) h, Paired.mapP r fun _ _ z => Rup k z⟩⟩ := fun D1 H k h Q q => hi D1 H k h _ fun J D2 H2 g2 w Dl hD => by
  have nf : ∀ a acc, NoFz (ho a acc) := fun a acc => nofz_of (.inr (soft a acc))
  refine ⟨fun i m H3 => m = xs.length - i ∧ i ≤ xs.length ∧ ∃ D3 acc, Grow D2 H2 D3 H3 ∧ Loc Dl (ho Dl acc) D3 H3 ∧ Paired (fun b x => R b x D3) acc (xs.take i), ⟨xs.length, by simp, Nat.zero_le _, D2, [], by rw [h0]; exact (Grow.refl g2.dh).mut hD (g2.dh.dom hD) (nf _ _), by rw [h0]; exact Loc.new g2.dh hD, by
    rw [List.take_zero]
    exact .nil⟩, ?_⟩
  rintro i m H3 ⟨rfl, hi3, D3, acc, g3, c3, t3⟩
  have fre : Fre (ho Dl acc) := by
    have := soft Dl acc
    cases hx : ho Dl acc <;> rw [hx] at this <;> first | exact True.intro | exact this.elim
  by_cases hlt : i < xs.length
  · have hg : xs[i]? = some xs[i] := by simp [hlt]
    have hm : (xs.map τ)[i]? = some (τ xs[i]) := by rw [List.getElem?_map, hg]; rfl
    have tk1 := take_one hg
    refine .inr ⟨w.goes i H3 (g3.d.trans g3.dh) (by rw [List.length_map]; exact hlt), fun H4 => ∃ D4 acc, Grow D2 H2 D4 H4 ∧ Loc Dl (ho Dl acc) D4 H4 ∧ Paired (fun b x => R b x D4) acc (xs.take (i + 1)),
      fun H4 ⟨D4, acc4, r⟩ => ⟨xs.length - (i + 1), by omega, rfl, hlt, D4, acc4, r⟩, fun x H4 y => ?_⟩
    obtain ⟨D4, g4, tx⟩ := w.yld i _ D3 H3 x H4 g3.d g3.dh hm y
    refine hel xs[i] (List.mem_of_getElem? hg) D4 (((k.trans g2.d).trans g3.d).trans g4.d) x tx H4 g4.dh (fun y z H5 => ∃ H6, put H5 Dl y z H6 ∧ ∃ D6 acc, Grow D2 H2 D6 H6 ∧ Loc Dl (ho Dl acc) D6 H6 ∧ Paired (fun b x => R b x D6) acc (xs.take (i + 1))) _ (fun y z D5 H5 g5 ty tz => ?_)
    have gg := g4.trans g5
    have c5 := c3.grow fre gg
    have t5 : Paired (fun b x => R b x D5) acc (xs.take i) := Paired.mapP t3 fun _ _ z => Rup gg.d.q z
    obtain ⟨b, hb, hp⟩ := hput H5 D5 Dl acc i _ y z hg gg.dh c5.d c5.h t5 ty tz
    refine ⟨_, hp, D5, acc ++ [b], (g3.trans gg).mut hD c5.d (nf _ _), c5.put, ?_⟩
    rw [tk1]
    exact pr_app t5 (.cons hb .nil)
  · have e : i = xs.length := by omega
    subst e
    rw [List.take_length] at t3
    have st := w.stops H3 (g3.d.trans g3.dh)
    rw [List.length_map] at st
    obtain ⟨g5, k5⟩ := c3.own g3 hD (.inr (soft _ _))
    exact .inl ⟨st, q (.ref Dl) _ H3 (g2.trans g5) ⟨Dl, acc, rfl, .inl upd_same, Paired.mapP t3 fun _ _ z => Rup k5.q z⟩⟩
end
end K02
set_option Elab.async false
set_option linter.all false
set_option maxRecDepth 100000
set_option maxHeartbeats 4000000
/-! Typed: dict comprehensions with tuple keys, two fors, dict(..), sorted dicts. -/
namespace K02
open PySem PySem.Spec PyProof.Rows L2 PySem.W
section
variable {K : PySem.W.Frag} {σ : Sl} {D D' H : Hp} {te ta tk td tv : TE} {tt : TT} {t u : Ty} {ts : List Ty} {v : V}
abbrev tyKey (k : List Key) : Ty := tyT (k.map fun y => tyV (kV y))
theorem key_at {k : List Key} (h : (tyKey k).p v D) : ∃ b, v = .ref b ∧ D b = some (.tup (k.map kV)) := by
  obtain ⟨b, vs, rfl, hb, hw⟩ := h
  have e0 : vs = k.map kV := all_flat (by rw [List.map_map]; exact hw)
  subst e0
  exact ⟨b, rfl, hb⟩
theorem nd_take {α κ : Type} {key : α → κ} {xs : List α} (nd : (xs.map key).Nodup) {i : Nat} {x : α} (h : xs[i]? = some x) : ∀ y ∈ xs.take i, key y ≠ key x := fun y hy e => by
  obtain ⟨j, hj, ej⟩ := List.getElem_of_mem hy
  have hji : j < i := by
    rw [List.length_take] at hj
    omega
  have hjx : j < xs.length := by
    rw [List.length_take] at hj
    omega
  have h1 : (xs.map key)[j]? = some (key x) := by
    rw [List.getElem?_map, List.getElem?_eq_getElem hjx]
    rw [List.getElem_take] at ej
    rw [ej]
    exact congrArg some e
  have h2 : (xs.map key)[i]? = some (key x) := by rw [List.getElem?_map, h]; rfl
  have := nd_ix nd h1 h2
  omega
theorem ev_dcT {α : Type} {wi : TI} {g : TG} {vs : List Nat} {xs : List α} (τ : α → Ty) (key : α → List Key) (out : α → Ty) (hi : EvI wi σ D (xs.map τ)) (nd : (xs.map key).Nodup) (hz : xs.length ≤ 100000)
    (hel : ∀ a ∈ xs, ∀ D1, Kp D D1 → ∀ x, (τ a).p x D1 → DgEl g tk tv vs σ D1 x (tyKey (key a)) (out a)) : Ev (tDcG (fun _ => .dT []) putT wi g tYes tk tv vs) σ D (tyE (xs.map fun a => (key a, out a))) := by
  refine Ev.sub ?_ (ev_dcg (β := List Key × V) τ (fun a => tyKey (key a)) out (fun _ acc => .dT acc) (fun _ _ => True.intro) (fun b a D => b.1 = key a ∧ (out a).p b.2 D) (fun k h => ⟨h.1, (out _).up k h.2⟩) (fun _ => rfl) (fun H D0 a acc i x y z hx k n ha pr ty tz => ?_) hi hel)
  · rintro v H ⟨a, acc, rfl, h, r⟩
    refine ⟨a, acc, rfl, h, ?_⟩
    clear hi hel nd hz h
    induction r with
    | nil => exact .nil
    | cons h1 _ ih => exact .cons h1 ih
  · obtain ⟨b, rfl, hb⟩ := key_at ty
    refine ⟨(key x, z), ⟨rfl, tz⟩, acc, key x, b, ha, rfl, k.q.fx (u := .tup _) True.intro hb, ?_, ?_⟩
    · have l1 := pr_len pr
      rw [List.length_take] at l1
      exact Nat.lt_of_le_of_lt (show acc.length ≤ 100000 by omega) (by decide)
    · have : putK acc (key x) z = acc ++ [(key x, z)] := putK_new z (valV_no (fun hm => by
        obtain ⟨p, hp, e⟩ := List.mem_map.mp hm
        obtain ⟨j, hj⟩ := List.mem_iff_getElem?.mp hp
        obtain ⟨y, hy, hy2⟩ := L2.paired_get pr hj
        exact nd_take nd hx y (List.mem_of_getElem? hy) (hy2.1.symm.trans e)))
      rw [this]
/-- a dict with pairs for keys, all its values true -/
def tyN (P : Program) (w : World) (ps : List Pr) : Ty := ⟨fun v H => ∃ a L, v = .ref a ∧ Rd H a (NDict P w a L) ∧ Paired (fun (l : Ent) p => l.1 = p ∧ l.2.2 = .bl true ∧ PrAt H l.2.1 l.1) L ps,
  fun {v H H'} k ⟨a, L, e, h, r⟩ => ⟨a, L, e, k.sf (u := NDict P w a L) True.intro h, Paired.mapP r fun _ _ z => ⟨z.1, z.2.1, z.2.2.up k⟩⟩⟩
theorem ev_dcN {P : Program} {w : World} {α : Type} {wi : TI} {g : TG} {vs : List Nat} {xs : List α} (τ : α → Ty) (key : α → Pr) (hi : EvI wi σ D (xs.map τ)) (nd : (xs.map key).Nodup) (hz : xs.length ≤ 100000)
    (hel : ∀ a ∈ xs, ∀ D1, Kp D D1 → ∀ x, (τ a).p x D1 → DgEl g tk tv vs σ D1 x (tyPr (key a)) (tyB true)) : Ev (tDcG (NDict P w · []) (putN P w) wi g tYes tk tv vs) σ D (tyN P w (xs.map key)) := by
  refine Ev.sub ?_ (ev_dcg (z0 := fun a => NDict P w a []) (β := Ent) τ (fun a => tyPr (key a)) (fun _ => tyB true) (fun a acc => NDict P w a acc) (fun _ _ => True.intro) (fun l a D => l.1 = key a ∧ l.2.2 = .bl true ∧ PrAt D l.2.1 l.1) (fun k h => ⟨h.1, h.2.1, h.2.2.up k⟩) (fun _ => rfl) (fun H D0 a acc i x y z hx k n ha pr ty tz => ?_) hi hel)
  · rintro v H ⟨a, acc, rfl, h, r⟩
    refine ⟨a, acc, rfl, h, ?_⟩
    clear hi hel nd hz h
    induction r with
    | nil => exact .nil
    | cons h1 _ ih => exact .cons h1 ih
  · obtain ⟨q, rfl, hq⟩ := prAt_ty ty
    have tz : z = .bl true := tz
    subst tz
    refine ⟨(key x, q, .bl true), ⟨rfl, rfl, hq⟩, acc, key x, q, ha, rfl, fun l hl => ?_, hq.up k.q, fun hm => ?_, ?_, rfl⟩
    · obtain ⟨j, hj⟩ := List.mem_iff_getElem?.mp hl
      obtain ⟨y, hy, hy2⟩ := L2.paired_get pr hj
      exact hy2.2.2.up k.q
    · obtain ⟨l, hl, e⟩ := List.mem_map.mp hm
      obtain ⟨j, hj⟩ := List.mem_iff_getElem?.mp hl
      obtain ⟨y, hy, hy2⟩ := L2.paired_get pr hj
      exact nd_take nd hx y (List.mem_of_getElem? hy) (hy2.1.symm.trans e)
    · have l1 := pr_len pr
      rw [List.length_take] at l1
      exact Nat.lt_of_le_of_lt (show acc.length ≤ 100000 by omega) (by decide)

/-! ### two fors -/
theorem ev_lc2 {α β : Type} {wi wi1 : TI} {j j1 : Nat} {vs vs1 : List Nat} {xs : List α} (τ : α → Ty) (ys : α → List β) (τ1 : α → β → Ty) (out : α → β → Ty) (hi : EvI wi σ D (xs.map τ)) (hz : (xs.flatMap ys).length ≤ 100000)
    (hw : ∀ x, wipe ((wipe σ vs).set j (some x)) vs = wipe σ vs) (hw1 : ∀ x y, wipe ((wipe ((wipe σ vs).set j (some x)) vs1).set j1 (some y)) vs1 = wipe ((wipe σ vs).set j (some x)) vs1)
    (h1 : ∀ a ∈ xs, ∀ D1, Kp D D1 → ∀ x, (τ a).p x D1 → EvI wi1 ((wipe σ vs).set j (some x)) D1 ((ys a).map (τ1 a)))
    (h2 : ∀ a ∈ xs, ∀ D1, Kp D D1 → ∀ x, (τ a).p x D1 → ∀ b ∈ ys a, ∀ y, (τ1 a b).p y D1 → Ev te ((wipe ((wipe σ vs).set j (some x)) vs1).set j1 (some y)) D1 (out a b)) :
    Ev (tLc2 wi (gName j) tYes wi1 (gName j1) tYes te vs vs1) σ D (tyL (xs.flatMap fun a => (ys a).map (out a))) := fun D1 H k h Q q => hi D1 H k h _ fun J D2 H2 g2 w Dl hD => by
  have zt : ∀ i, ((xs.take i).flatMap ys).length ≤ (xs.flatMap ys).length := fun i => by
    have := List.take_append_drop i xs
    conv => rhs; rw [← this, List.flatMap_append, List.length_append]
    omega
  have fl : ∀ l : List α, (l.flatMap fun a => (ys a).map (out a)).length = (l.flatMap ys).length := fun l => by
    induction l with
    | nil => rfl
    | cons a r ih => rw [List.flatMap_cons, List.flatMap_cons, List.length_append, List.length_append, ih, List.length_map]
  refine ⟨fun i m H3 => m = xs.length - i ∧ i ≤ xs.length ∧ ∃ D3 acc, Grow D2 H2 D3 H3 ∧ Loc Dl (.lst acc) D3 H3 ∧ TysAt ((xs.take i).flatMap fun a => (ys a).map (out a)) acc D3, ⟨xs.length, by simp, Nat.zero_le _, D2, [], (Grow.refl g2.dh).mut hD (g2.dh.dom hD) nf_lst, Loc.new g2.dh hD, .nil⟩, ?_⟩
  rintro i m H3 ⟨rfl, hi3, D3, acc, g3, c3, t3⟩
  by_cases hlt : i < xs.length
  · have hg : xs[i]? = some xs[i] := by simp [hlt]
    have hm : (xs.map τ)[i]? = some (τ xs[i]) := by rw [List.getElem?_map, hg]; rfl
    have tk := take_one hg
    have hmem := List.mem_of_getElem? hg
    have room : ((xs.take i).flatMap ys).length + (ys xs[i]).length ≤ 100000 := by
      have := zt (i + 1)
      rw [tk, List.flatMap_append, List.length_append, List.flatMap_cons, List.flatMap_nil, List.append_nil] at this
      omega
    refine .inr ⟨w.goes i H3 (g3.d.trans g3.dh) (by rw [List.length_map]; exact hlt), fun H4 => ∃ D4 acc, Grow D2 H2 D4 H4 ∧ Loc Dl (.lst acc) D4 H4 ∧ TysAt ((xs.take (i + 1)).flatMap fun a => (ys a).map (out a)) acc D4,
      fun H4 ⟨D4, acc4, r⟩ => ⟨xs.length - (i + 1), by omega, rfl, hlt, D4, acc4, r⟩, fun x H4 y => ?_⟩
    obtain ⟨D4, g4, tx⟩ := w.yld i _ D3 H3 x H4 g3.d g3.dh hm y
    have k4 : Kp D D4 := ((k.trans g2.d).trans g3.d).trans g4.d
    refine ⟨hw x, ?_⟩
    dsimp only [tYes]
    rw [if_pos rfl]
    refine h1 _ hmem D4 k4 x tx D4 H4 (Kp.refl _) g4.dh _ fun J1 D5 H5 g5 w1 => ?_
    have c5 := c3.grow (x := .lst acc) True.intro (g4.trans g5)
    refine ⟨fun j2 m H6 => m = (ys xs[i]).length - j2 ∧ j2 ≤ (ys xs[i]).length ∧ ∃ D6 acc2, Grow D2 H2 D6 H6 ∧ Kp D5 D6 ∧ Loc Dl (.lst acc2) D6 H6 ∧ TysAt (((xs.take i).flatMap fun a => (ys a).map (out a)) ++ ((ys xs[i]).take j2).map (out xs[i])) acc2 D6,
      ⟨(ys xs[i]).length, by simp, Nat.zero_le _, D5, acc, g3.trans (g4.trans g5), Kp.refl _, c5, by
        rw [List.take_zero, List.map_nil, List.append_nil]
        exact TysAt.up (g4.trans g5).d.q t3⟩, ?_⟩
    rintro j2 m2 H6 ⟨rfl, hj, D6, acc2, g6, k6, c6, t6⟩
    by_cases hlt2 : j2 < (ys xs[i]).length
    · have hg2 : (ys xs[i])[j2]? = some (ys xs[i])[j2] := by simp [hlt2]
      have hm2 : ((ys xs[i]).map (τ1 xs[i]))[j2]? = some (τ1 xs[i] (ys xs[i])[j2]) := by rw [List.getElem?_map, hg2]; rfl
      have tk2 := take_one hg2
      refine .inr ⟨w1.goes j2 H6 (k6.trans g6.dh) (by rw [List.length_map]; exact hlt2), fun H7 => ∃ D7 acc3, Grow D2 H2 D7 H7 ∧ Kp D5 D7 ∧ Loc Dl (.lst acc3) D7 H7 ∧ TysAt (((xs.take i).flatMap fun a => (ys a).map (out a)) ++ ((ys xs[i]).take (j2 + 1)).map (out xs[i])) acc3 D7,
        fun H7 ⟨D7, acc3, r⟩ => ⟨(ys xs[i]).length - (j2 + 1), by omega, rfl, hlt2, D7, acc3, r⟩, fun x2 H7 y2 => ?_⟩
      obtain ⟨D7, g7, tx2⟩ := w1.yld j2 _ D6 H6 x2 H7 k6 g6.dh hm2 y2
      refine ⟨hw1 x x2, ?_⟩
      dsimp only [tYes]
      rw [if_pos rfl]
      have k7 : Kp D4 D7 := (g5.d.trans k6).trans g7.d
      refine (h2 _ hmem D7 (k4.trans k7) x ((τ _).up k7.q tx) _ (List.mem_of_getElem? hg2) x2 tx2).use g7.dh fun z D8 H8 g8 tz => ?_
      have gg := g7.trans g8
      have c8 := c6.grow (x := .lst acc2) True.intro gg
      refine ⟨acc2, c8.h, ?_, D8, acc2 ++ [z], (g6.trans gg).mut hD c8.d nf_lst, k6.trans gg.d, c8.put, ?_⟩
      · have l := pr_len t6
        rw [List.length_append, fl, List.length_map, List.length_take] at l
        exact Nat.lt_of_le_of_lt (show acc2.length ≤ 100000 by omega) (by decide)
      · rw [tk2, List.map_append, ← List.append_assoc]
        exact pr_app (TysAt.up gg.d.q t6) (.cons tz .nil)
    · have e : j2 = (ys xs[i]).length := by omega
      subst e
      have st := w1.stops H6 (k6.trans g6.dh)
      rw [List.length_map] at st
      refine .inl ⟨st, D6, acc2, g6, c6, ?_⟩
      rw [List.take_length] at t6
      rw [tk, List.flatMap_append]
      simpa using t6
  · have e : i = xs.length := by omega
    subst e
    rw [List.take_length] at t3
    have st := w.stops H3 (g3.d.trans g3.dh)
    rw [List.length_map] at st
    obtain ⟨g5, k5⟩ := c3.own g3 hD (.inl True.intro)
    exact .inl ⟨st, q (.ref Dl) _ H3 (g2.trans g5) ⟨Dl, acc, rfl, upd_same, TysAt.up k5.q t3⟩⟩
end
end K02
set_option Elab.async false
set_option linter.all false
set_option maxRecDepth 100000
set_option maxHeartbeats 4000000
/-! Instances: truth by __bool__, bool(..), isinstance of an own class, == by __eq__. -/
namespace K02
open PySem PySem.Spec PyProof.Rows L2
section
variable {X : Cx} {pins : List (Addr × Obj)} {σ : L2.St} {H : Hp} {s : Shared} {A : Around} {k : Nat} {C a dx : Addr} {fs : List (Str × V)} {sp : Sp}
theorem truthy_ins (c : Met X.prog X.w X.K X.mg X.base k C "__bool__" sp) (sb : L2.Sub X k A) (I : Inv X pins σ H s) (ha : H a = some (.ins C dx fs)) {Q : Bool → Hp → Prop} (hsp : sp [.ref a] H (fun v H' => ∃ b, v = .bl b ∧ Q b H') E0) :
    wpAny (model X.prog X.w) A (truthy (.ref a)) (fun b s' => ∃ H', Inv X pins σ H' s' ∧ Q b H') X.xe s := by
  obtain ⟨f, fd, ps, cl, ⟨hs, hf, hkeep⟩, F, hb⟩ := c.ex
  obtain ⟨mA, J, _⟩ := ins_get I.hok ha
  obtain ⟨od, J, _⟩ := J.look
  have e0 : Env0 X.prog X.w X.K X.mg X.base A X.stack s H := by
    have e := I.env0
    exact ⟨by rw [sb.fr]; exact e.frames, e.mod, e.bs, e.bsz, e.funs, e.frf, e.hok, e.bare⟩
  have hl := F.len _ _ _ _ hsp
  have r2 : Vals [V.ref a] [Value.ref a] := .cons rfl .nil
  have hcall : wpAny (model X.prog X.w) A (call (.ref f) [.ref a]) (fun v s' => ∃ b H', v = .bool b ∧ Inv X pins σ H' s' ∧ Q b H') X.xe s := by
    refine wpAny_call (codeAny_mono (F.run A X.stack s H ⟨[.ref a], []⟩ [.ref a] [.ref a] _ E0 sb.room e0 (by
      have := hb s [.ref a] I.kIn (by simpa using hl)
      simpa using this) r2 hsp) fun r s' hq => ?_)
    cases r with
    | error e => exact pass0 pins σ H s e s' I hq
    | ok fl =>
      cases fl with
      | ret w =>
        obtain ⟨z, H', I', rz, b, ez, q⟩ := I.after hq
        subst ez
        cases rz
        exact ⟨b, H', rfl, I', q⟩
      | next => exact False.elim hq
      | brk => exact False.elim hq
      | cont => exact False.elim hq
  unfold truthy
  refine wpAny_bind ?_
  unfold callSpecial? specialOf
  refine wpAny_bind (wpAny_bind (J.type.here ((PySem.W.looks_findIn I.kIn hs).here ?_)))
  refine wpAny_holding (wpAny_bind ((PySem.W.bind_fn I.kIn _ (beq_iff_eq.mp hf)).here ?_))
  refine wpAny_bind (m := call (.ref f) [.ref a]) (wpAny_mono hcall (fun v s' hv => ?_) fun _ _ e => e)
  obtain ⟨b, H', rfl, I', q⟩ := hv
  exact wpAny_pure (wpAny_pure ⟨H', I', q⟩)
/-- a test by the own __bool__ -/
def tOwnB (C : Addr) (sp : Sp) (te : TE) : TT := fun σ H Q => te σ H fun x H1 => ∃ a dx fs, x = .ref a ∧ H1 a = some (.ins C dx fs) ∧ sp [.ref a] H1 (fun v H' => ∃ b, v = .bl b ∧ Q b H') E0
theorem pt_own {e : Expr} {te : TE} {j : Nat} (c : Met X.prog X.w X.K X.mg X.base k C "__bool__" sp) (hr : Room j X.A) (hk : k ≤ j) (h : PE X e te) (he : ∀ whole, isTrue e X.env whole = (do let v ← whole; standAt e.pos; holding [v] (truthy v)) := by intro _; rfl) : PT X e (tOwnB C sp te) := by
  refine ⟨fun pins s σ H Q I hw => ?_⟩
  refine isTrue_plain (thn (h.run pins s σ H _ I hw) fun v s1 ⟨x, H1, I1, r1, q1⟩ => ?_) (he _)
  obtain ⟨a, dx, fs, rfl, ha, q⟩ := q1
  cases r1
  exact wpAny_mono (truthy_ins c ⟨hr.mono hk, rfl⟩ I1 ha q) (fun b s' ⟨H', I', q'⟩ => ⟨H', I', q'⟩) fun _ _ x => x
theorem meets_bool_any (prog : Program) (w : World) (x : Value) : MeetsIn prog w (Builtin.«bool.__new__» ⟨[.type "bool", x], []⟩) (fun A R s => wpAny (model prog w) A.in1 (truthy x) (fun b s' => R (.ok (.ret (.bool b))) s') (fun e s' => R (.error e) s') s) :=
  .of_wp fun A R s h => by
    have h' : ∀ Q' : Bool → Shared → Prop, (∀ b s', R (.ok (.ret (.bool b))) s' → Q' b s') → wpAny (model prog w) A.in1 (truthy x) Q' (fun e s' => R (.error e) s') s := fun Q' hq => wpAny_mono h (fun b s' r => hq b s' r) fun _ _ x => x
    clear h
    obtain ⟨hp, g, d, tk, os⟩ := s
    have f1 := PySem.F.conv_sub_bool
    repeat (any_goals (first | assumption | (with_reducible refine h' _ fun b s' r => ?_) | wp_step))
    all_goals first | exact ⟨_, rfl, r⟩ | exact r | skip
/-- bool(x) by the own __bool__ -/
theorem call_boolI {j : Nat} (c : Met X.prog X.w X.K X.mg X.base k C "__bool__" sp) (hr : Room (j + 2) X.A) (hk : k ≤ j) : CallR X (.type "bool") (fun xs H Q => ∃ a dx fs, xs = [.ref a] ∧ H a = some (.ins C dx fs) ∧ sp [.ref a] H (fun v H' => ∃ b, v = .bl b ∧ Q (.bl b) H') E0) := by
  intro pins s σ H xs us Q I r h
  obtain ⟨a, dx, fs, rfl, ha, q⟩ := h
  obtain rfl := Vals.ref1 r
  refine callType_newIn PySem.F.called_bool PySem.F.newNe_bool (PySem.F.typeCall_bool_1 _) (PySem.F.newCall_bool_1 _) (fun obj => PySem.F.args_object_init_2 obj _) PySem.F.entry_bool_new (meets_bool_any _ _ _) ?_
  refine wpAny_mono (truthy_ins (A := X.A.in1.in1) c ⟨(hr.in1.in1).mono hk, rfl⟩ I ha q) (fun b s' ⟨H', I', q'⟩ => ⟨rfl, .bl b, H', I', rfl, q'⟩) fun _ _ x => x
end
end K02
set_option Elab.async false
set_option linter.all false
set_option maxRecDepth 100000
set_option maxHeartbeats 4000000
/-! set(xs): what each item leaves is told by J. -/
namespace K02
open PySem PySem.Spec PyProof.Rows
section
variable {P : Program} {w : World} {A : Around} {E : Value → Shared → Prop} {s : Shared}
/-- one more item -/
def JAdd (P : Program) (w : World) (A : Around) (S : Addr) (J : Nat → Heap → Prop) (i : Nat) (v : Value) : Prop := ∀ (E : Value → Shared → Prop) (s : Shared), J i s.heap → ∀ Q : Bool → Shared → Prop,
  (∀ b h' tk, Heap.SameBut S s.heap h' → s.toks ≤ tk → J (i + 1) h' → Q b { s with heap := h', toks := tk }) → wpAny (model P w) A (setAdd S v) Q E s
theorem set_loop {I : Addr} {fp wr : List Addr} {G : Array GenState → Array GenState → Prop} {n : Nat} {Pv : Nat → Value → Prop} {St : Nat → Shared → Prop} {R : Result → Shared → Prop}
    (W : WalksS P w A.in1 I fp wr G n Pv St) (S : Addr) (hSf : S ∉ fp) (J : Nat → Heap → Prop) (jk : ∀ i h h', J i h → (∀ b o, b ∉ wr → h.get? b = some o → h'.get? b = some o) → J i h')
    (ja : ∀ i v, i < n → Pv i v → JAdd P w A.in1 S J i v) :
    ∀ (k i : Nat) (s : Shared), n - i = k → i ≤ n → St i s → J i s.heap → (∀ s', Moved (S :: wr) G s s' → J n s'.heap → R (.ok (.ret .none)) s') → codeAny (model P w) A (.builtin "set.update.loop" ⟨[.ref S, .ref I], []⟩) R s := by
  have hsub : ∀ b ∈ wr, b ∈ S :: wr := fun b hb => List.mem_cons_of_mem _ hb
  intro k
  induction k with
  | zero =>
    intro i s hk hi hst hj hR
    obtain rfl : i = n := by omega
    refine codeAny_builtin F.entry_set_update_loop ?_
    rw [Around.under_plainId F.plain_set_update_loop _]
    show wpAny _ A.in1 (pyNext (.ref I) >>= _) _ _ s
    refine wpAny_bind (W.done s _ _ hst fun s' hm => ?_)
    show wpAny _ A.in1 (ret Value.none) _ _ s'
    exact wpAny_pure (hR s' (hm.mono hsub) (jk _ _ _ hj fun b o hb e => hm.heap b o hb e))
  | succ k ih =>
    intro i s hk hi hst hj hR
    have hlt : i < n := by omega
    refine codeAny_builtin F.entry_set_update_loop ?_
    rw [Around.under_plainId F.plain_set_update_loop _]
    show wpAny _ A.in1 (pyNext (.ref I) >>= _) _ _ s
    refine wpAny_bind (W.item i s _ _ hlt hst fun v s' hP hst' hm => ?_)
    have hj' := jk _ _ s'.heap hj fun b o hb e => hm.heap b o hb e
    show wpAny _ A.in1 (holding [v] (setAdd S v) >>= _) _ _ s'
    refine wpAny_bind (wpAny_holding (ja i v hlt hP _ s' hj' _ fun b h' tk hsb htk hj2 => ?_))
    refine wpAny_pure ⟨plainId_quiet F.plain_set_update_loop _, ih (i + 1) _ (by omega) hlt (W.frame _ s' _ _ hst' htk fun b hb o e => ?_) hj2 fun s'' hm'' hj'' => ?_⟩
    · rw [hsb.2 b (fun h : b = S => hSf (by rw [← h]; exact hb))]; exact e
    · refine hR s'' (Moved.trans W.gtrans ((hm.mono hsub).then_heap htk fun b o hb e => ?_) hm'') hj''
      rw [hsb.2 b (fun h : b = S => hb (by rw [h]; exact List.mem_cons_self))]; exact e
/-- a new set's object -/
abbrev newSetO (w : World) : Obj := { cls := .type "set", dict := none, data := .set #[] 0 (.fresh 0 0 (!w.params.followText "set-order")) }
/-- set(l), l a list -/
theorem call_set_G {l : Addr} {items : Array Value} {Q : Value → Shared → Prop} (hh : A.handled = none) (hl : s.heap.IsList l items) (J : Nat → Heap → Prop) (jk : ∀ i h h', J i h → (∀ b o, (s.heap.get? b ≠ none ∨ b = s.heap.objs.size) → h.get? b = some o → h'.get? b = some o) → J i h')
    (j0 : ∀ h, h.get? s.heap.objs.size = some (newSetO w) → (∀ b o, s.heap.get? b = some o → h.get? b = some o) → J 0 h)
    (ja : ∀ i v, items[i]? = some v → JAdd P w A.in1.in1.in1 s.heap.objs.size J i v)
    (h : ∀ (h' : Heap) (tk : Nat), J items.size h' → (∀ b o, s.heap.get? b = some o → h'.get? b = some o) → Q (.ref s.heap.objs.size) { s with heap := h', toks := tk }) :
    wpAny (model P w) A (call (.type "set") [.ref l]) Q E s := by
  obtain ⟨c, tl, hmro⟩ := F.called_set.mro
  have hmade := F.called_set.made
  have hsub := F.called_set.sub
  refine wpAny_call (codeAny_of_tree ?_)
  show wpAny _ _ (callAny (.type "set") _) _ _ _
  refine wpAny_pure ⟨Code.quiet_builtin _ (by decide +kernel), codeAny_builtin F.entry_type_call ?_⟩
  rw [Around.under_plain (weight_type_call_type "set" [.ref l] []) rfl]
  have h1 := F.called_set.notType
  have h2 := F.called_set.canCreate
  have hct := F.typeCall_set_1 (.ref l)
  repeat (any_goals (first | assumption | wp_step))
  refine codeAny_mono (L2.code_set_led1 (.ref l) (E := E) (Q₁ := fun obj s₁ => obj = .ref s.heap.objs.size ∧ s₁ = { s with heap := s.heap.push (newSetO w) }) ⟨rfl, rfl⟩) fun r s₁ hr => ?_
  cases r with
  | error e => exact hr
  | ok fl =>
    cases fl with
    | ret obj =>
      obtain ⟨rfl, rfl⟩ := hr
      have hS : (s.heap.push (newSetO w)).get? s.heap.objs.size = some (newSetO w) := Heap.get?_push_size _ rfl
      have hT : Shared.TypeIs { s with heap := s.heap.push (newSetO w) } (.ref s.heap.objs.size) "set" := ⟨_, hS, rfl⟩
      have hli := F.called_set.init.lookup
      have hbi := F.called_set.init.bind (.ref s.heap.objs.size)
      repeat (any_goals (first | assumption | wp_step))
      refine codeAny_mono (codeAny_call_builtin (R := wants (fun r s₂ => r = .none ∧ ∃ h' tk, s₂ = { s with heap := h', toks := tk } ∧ J items.size h' ∧ (∀ b o, s.heap.get? b = some o → h'.get? b = some o)) E) F.called_set.init.plain F.entry_set_init (check_set_init_1 hT ?_)) fun r₂ s₂ hr₂ => ?_
      · obtain ⟨ol, hol, hcl, nl, hdl⟩ := hl
        obtain ⟨ocls, odict, odata, oslots⟩ := ol
        simp only at hcl hdl
        subst hcl; subst hdl
        have hol' : (s.heap.push (newSetO w)).get? l = some { cls := .type "list", dict := odict, data := .seq items nl, slots := oslots } := Heap.get?_push_of_some _ hol
        have hsls := F.sub_list_set
        have hslf := F.sub_list_frozenset
        have hne : (Value.type "list" == Value.type "dict") = false := by decide
        have hl1 : (s.heap.push (newSetO w)).IsList l items := ⟨_, hol', rfl, nl, rfl⟩
        unfold Builtin.«set.__init__» noKeywords Builtin.Frozenset.updateFrom
        generalize hPI : pyIter = PI
        wp_walk
        subst hPI
        refine wpAny_pyIter_list hl1 ?_
        refine wpAny_bind (wpAny_runValue ?_)
        have hlS : l < s.heap.objs.size := Heap.lt_size hol
        have hh3 : A.in1.in1.in1.handled = none := by simp [hh]
        have hneI : l ≠ (s.heap.push (newSetO w)).objs.size := by
          rw [Heap.size_push]; exact Nat.ne_of_lt (Nat.lt_succ_of_lt hlS)
        have hSf : s.heap.objs.size ∉ [(s.heap.push (newSetO w)).objs.size, l] := by
          rw [Heap.size_push]; simp only [List.mem_cons, List.mem_singleton, List.not_mem_nil, or_false, not_or]
          exact ⟨Nat.ne_of_lt (Nat.lt_succ_self _), Nat.ne_of_gt hlS⟩
        have lt_of : ∀ {b o}, s.heap.get? b = some o → b < s.heap.objs.size := fun e => Heap.lt_size e
        refine set_loop (R := _) ((Walks.list hh3 _ l hneI items).toS) s.heap.objs.size hSf J (fun i h h' hj hk => jk i h h' hj fun b o hb e => hk b o (fun hm => ?_) e) (fun i v hi hv => ja i v hv) (items.size - 0) 0 _ (by omega) (Nat.zero_le _)
          ⟨⟨_, Heap.get?_push_size _ rfl, rfl, rfl⟩, (hl1.push _)⟩ (j0 _ (Heap.get?_push_of_some _ hS) fun b o e => Heap.get?_push_of_some _ (Heap.get?_push_of_some _ e)) ?hR
        case hR =>
          intro s' hm hj
          obtain ⟨h', g2, d', tk', os'⟩ := s'
          have eg : g2 = s.gens := hm.gens
          have ed : d' = s.drawn := hm.drawn
          have eo : os' = s.os := hm.os
          subst eg; subst ed; subst eo
          show wpAny _ _ _ _ _ _
          refine wpAny_pure ?_
          show wpAny _ _ (ret Value.none) _ _ _
          refine wpAny_pure ⟨rfl, h', tk', rfl, hj, fun b o e => ?_⟩
          have hb1 : b ≠ s.heap.objs.size := Nat.ne_of_lt (lt_of e)
          have hb2 : b ≠ (s.heap.push (newSetO w)).objs.size := by
            rw [Heap.size_push]; exact Nat.ne_of_lt (Nat.lt_succ_of_lt (lt_of e))
          exact hm.heap b o (by simp only [List.mem_cons, List.mem_singleton, List.not_mem_nil, or_false, not_or]; exact ⟨hb1, hb2⟩) (Heap.get?_push_of_some _ (Heap.get?_push_of_some _ e))
        · have hm : b = (s.heap.push (newSetO w)).objs.size := List.mem_singleton.mp hm
          rw [Heap.size_push] at hm
          rcases hb with hb | hb
          · cases q : s.heap.get? b with
            | none => exact hb q
            | some o2 => exact absurd (lt_of q) (by rw [hm]; exact Nat.not_lt.mpr (Nat.le_succ _))
          · exact absurd (hb.symm.trans hm) (Nat.ne_of_lt (Nat.lt_succ_self _))
      · cases r₂ with
        | error e => exact hr₂
        | ok fl₂ =>
          cases fl₂ with
          | ret r =>
            obtain ⟨rfl, h', tk, rfl, hj, hk'⟩ := hr₂
            repeat (any_goals (first | assumption | wp_step))
            exact h _ _ hj hk'
          | _ => exact hr₂.elim
    | _ => exact hr.elim
end
end K02
set_option Elab.async false
set_option linter.all false
set_option maxRecDepth 100000
set_option maxHeartbeats 4000000
/-! Sets of texts. -/
namespace K02
open PySem PySem.Spec PyProof.Rows
open L2 (Ris layNew_ris layNew_led relayAll_ris relayAll_led store_at SetAt mixKind keyIs)
section
variable {P : Program} {w : World} {A : Around} {E : Value → Shared → Prop} {s : Shared} {a : Addr} {xs : List Str}
def keyS (e : Int × Value) : Str := match e.2 with | .str x _ => x | _ => Str.empty
def GoodS (P : Program) (w : World) (e : Int × Value) : Prop := ∃ x tk, e.2 = Value.str x tk ∧ e.1 = (mixKind P w).hash (Sum.inr x)
structure SetS (P : Program) (w : World) (h : Heap) (a : Addr) (xs : List Str) : Prop where
  ex : ∃ o es ep t, h.get? a = some o ∧ o.ExactSet ∧ o.data = .set es ep t ∧ (∀ e ∈ es.toList, GoodS P w e) ∧ es.toList.map keyS = xs ∧ xs.Nodup ∧ es.size < scanBound ∧ t.fits es.size = true ∧ Ris t.place.toList ∧ (w.params.followText "set-order" = true ∨ t.led = true)
theorem SetS.at {h h' : Heap} (R : SetS P w h a xs) (k : ∀ o, h.get? a = some o → h'.get? a = some o) : SetS P w h' a xs := by
  obtain ⟨o, es, ep, t, ho, r⟩ := R.ex
  exact ⟨o, es, ep, t, k o ho, r⟩
theorem mixS (x : Str) (tk : Tok) : (mixKind P w).is (Sum.inr x) (.str x tk) = true := by
  show keyIs (Sum.inr x) (.str x tk) = true
  exact L2.kV_is (P := P) (w := w) (k := Sum.inr x) ⟨tk, rfl⟩
theorem goodS_elems {l : List (Int × Value)} (g : ∀ e ∈ l, GoodS P w e) : ElemsOf (mixKind P w) l := fun e he => by
  obtain ⟨x, tk, h1, h2⟩ := g e he
  exact ⟨⟨Sum.inr x, by rw [h1]; exact mixS x tk, h2⟩, by rw [h1]; rfl⟩
theorem goodS_is {e : Int × Value} (g : GoodS P w e) (x : Str) : (mixKind P w).is (Sum.inr x) e.2 = true ↔ keyS e = x := by
  obtain ⟨y, tk, h1, h2⟩ := g
  unfold keyS
  rw [h1]
  constructor
  · intro h
    have := (mixKind P w).inj _ _ _ h (mixS y tk)
    cases this
    rfl
  · rintro rfl
    exact mixS _ tk
theorem setS_tail {g : Bool → Sem Unit} (hg : ∀ (b : Bool) (s₁ : Shared) (Q' : Unit → Shared → Prop), Q' () s₁ → wpAny (model P w) A (g b) Q' E s₁)
    {o : Obj} {es : Array (Int × Value)} {ep : Nat} {t : SetTable} (ho : s.heap.get? a = some o) (hex : o.ExactSet) (hd : o.data = .set es ep t)
    {es1 : Array (Int × Value)} {t2 : SetTable} (g1 : ∀ e ∈ es1.toList, GoodS P w e) (nd1 : (es1.toList.map keyS).Nodup) (hb1 : es1.size < scanBound) (hf2 : t2.fits es1.size = true) (hr : Ris t2.place.toList) (hl : w.params.followText "set-order" = true ∨ t2.led = true)
    {wasDummy : Bool} {R : Option Bool → Shared → Prop} (hR : ∀ h' ys, Heap.SameBut a s.heap h' → ys.Perm (es1.toList.map keyS) → SetS P w h' a ys → R (some true) { s with heap := h' }) :
    wpAny (model P w) A (do
        storeSet a es1 t2
        if (!wasDummy && t2.tooFull) = true then do
            g (relayAll t2 es1 (SetTable.grown es1.size)).2.2
            storeSet a (relayAll t2 es1 (SetTable.grown es1.size)).1 (relayAll t2 es1 (SetTable.grown es1.size)).2.1
            pure (some true)
          else pure (some true)) R E s := by
  refine wpAny_bind (wpAny_storeSet_of ho hd ?_ (fits_of_scanBound hb1))
  have ho1 := store_at (es' := es1) (t' := t2) ho hd
  have sb1 := Heap.SameBut.update s.heap a (Obj.putSet es1 t2)
  split
  · have pm := relayAll_perm t2 es1 (SetTable.grown es1.size)
    have hf3 := relayAll_fits t2 es1 (SetTable.grown es1.size)
    have hr3 := relayAll_ris t2 es1 (SetTable.grown es1.size)
    have hl3 := relayAll_led t2 es1 (SetTable.grown es1.size)
    generalize relayAll t2 es1 (SetTable.grown es1.size) = Z at pm hf3 hr3 hl3 ⊢
    obtain ⟨es2, t3, gave⟩ := Z
    dsimp only at pm hf3 hr3 hl3 ⊢
    have hsz : es2.size = es1.size := by rw [← Array.length_toList, pm.length_eq, Array.length_toList]
    have hb2 : es2.size < scanBound := by rw [hsz]; exact hb1
    refine wpAny_bind (hg _ _ _ ?_)
    refine wpAny_bind (wpAny_storeSet_of ho1 rfl ?_ (fits_of_scanBound hb2))
    have ho2 := store_at (es' := es2) (t' := t3) ho1 rfl
    refine wpAny_pure (hR _ _ (sb1.trans (Heap.SameBut.update _ a _)) (pm.map keyS) ⟨_, es2, _, t3, ho2, hex, rfl, fun e he => g1 e (pm.mem_iff.mp he), rfl, (pm.map keyS).nodup_iff.mpr nd1, hb2, hf3, hr3, hl.imp id fun z => by rw [hl3]; exact z⟩)
  · exact wpAny_pure (hR _ _ sb1 (List.Perm.refl _) ⟨_, es1, _, t2, ho1, hex, rfl, g1, rfl, nd1, hb1, hf2, hr, hl⟩)
theorem setS_addH {s2 : Shared} {x : Str} {tk : Tok} {Q : Bool → Shared → Prop} (R : SetS P w s2.heap a xs) (room : xs.length + 1 < scanBound)
    (hQ' : ∀ b h' ys, Heap.SameBut a s2.heap h' → SetS P w h' a ys → (if x ∈ xs then ys.Perm xs else ys.Perm (x :: xs)) → Q b { s2 with heap := h' }) :
    wpAny (model P w) A (setAddHashed a (.str x tk) ((mixKind P w).hash (Sum.inr x))) Q E s2 := by
  obtain ⟨o, es, ep, t, ho, hex, hd, g, hm, nd, hb, hf, hr, hl⟩ := R.ex
  have hkey : (mixKind P w).is (Sum.inr x) (.str x tk) = true := mixS x tk
  have hsc : (Value.str x tk).scannable = true := rfl
  have hel : ElemsOf (mixKind P w) es.toList := goodS_elems g
  unfold setAddHashed setAddHashedIn
  refine wpAny_holding (wpAny_bind (wpAny_setState_of ho hd hf ?_))
  dsimp only
  rw [byScan_of hsc hb hel]
  simp only [↓reduceIte]
  unfold setAddByScan
  refine wpAny_bind ?_
  refine wpAny_bind (wpAny_rule ?_)
  refine wpAny_bind (wpAny_setScan_of hkey ho hd hf hel ?_)
  cases hfi : List.findIdx? (fun e => (mixKind P w).is (Sum.inr x) e.2) es.toList with
  | some j =>
    dsimp only
    obtain ⟨hj, pj, _⟩ := List.findIdx?_eq_some_iff_getElem.mp hfi
    have hx : x ∈ xs := by
      rw [← hm]
      exact List.mem_map.mpr ⟨_, List.getElem_mem hj, (goodS_is (g _ (List.getElem_mem hj)) x).mp pj⟩
    refine wpAny_pure (wpAny_pure ?_)
    exact hQ' _ s2.heap xs (Heap.SameBut.refl a _) R (by rw [if_pos hx])
  | none =>
    dsimp only
    have hnk : x ∉ xs := fun z => by
      rw [← hm] at z
      obtain ⟨e, he, q⟩ := List.mem_map.mp z
      have c := List.findIdx?_eq_none_iff.mp hfi e he
      rw [(goodS_is (g e he) x).mpr q] at c
      cases c
    have hgw : ∀ (b : Bool) {s₁ : Shared} {Q' : Unit → Shared → Prop}, Q' () s₁ → wpAny (model P w) A (match b with | true => rule "set.scan.the-table-gave-way" | false => pure ()) Q' E s₁ :=
      fun b s₁ Q' q => by cases b <;> first | exact wpAny_pure q | exact wpAny_rule q
    have pm := layNew_perm t es ((mixKind P w).hash (Sum.inr x)) (.str x tk)
    have hf1 := layNew_fits t es ((mixKind P w).hash (Sum.inr x)) (.str x tk)
    have hr1 := layNew_ris t es ((mixKind P w).hash (Sum.inr x)) (.str x tk) hr
    have hl1 := layNew_led t es ((mixKind P w).hash (Sum.inr x)) (.str x tk)
    generalize layNew t es ((mixKind P w).hash (Sum.inr x)) (.str x tk) = Z at pm hf1 hr1 hl1 ⊢
    obtain ⟨es1, t1, wasDummy, gave⟩ := Z
    dsimp only at pm hf1 hr1 hl1 ⊢
    rw [Array.toList_push] at pm
    have pc : es1.toList.Perm (((mixKind P w).hash (Sum.inr x), Value.str x tk) :: es.toList) := pm.trans (List.perm_append_singleton _ _)
    have pk : (es1.toList.map keyS).Perm (x :: xs) := by
      have := pc.map keyS
      rw [List.map_cons, hm] at this
      exact this
    have g1 : ∀ e ∈ es1.toList, GoodS P w e := fun e he => by
      rcases List.mem_cons.mp (pc.mem_iff.mp he) with z | z
      · rw [z]; exact ⟨x, tk, rfl, rfl⟩
      · exact g e z
    have nd1 : (es1.toList.map keyS).Nodup := pk.nodup_iff.mpr (List.nodup_cons.mpr ⟨hnk, nd⟩)
    have hb1 : es1.size < scanBound := by
      have e1 : es1.size = es.size + 1 := by rw [← Array.length_toList, pc.length_eq, List.length_cons, Array.length_toList]
      have e2 : es.size = xs.length := by rw [← hm, List.length_map, Array.length_toList]
      omega
    have hled : w.params.followText "set-order" = true ∨ t1.led = true := hl.imp id fun z => by rw [hl1]; exact z
    have fin : ∀ h' ys, Heap.SameBut a s2.heap h' → ys.Perm (es1.toList.map keyS) → SetS P w h' a ys → Q true { s2 with heap := h' } := fun h' ys sb py r => hQ' true h' ys sb r (by rw [if_neg hnk]; exact py.trans pk)
    refine wpAny_bind (hgw _ ?_)
    split
    · refine wpAny_bind ?_
      rw [hashByValue_scannable 8 hsc]
      refine wpAny_pure ?_
      refine setS_tail ?_ ho hex hd g1 nd1 hb1 ?_ ?_ ?_ ?_
      · intro b s₁ Q' q; cases b <;> first | exact wpAny_pure q | exact wpAny_rule q
      · first | (split <;> first | exact hf1 | exact SetTable.fits_plain_off hf1) | exact hf1
      · first | (split <;> exact hr1) | exact hr1
      · first | (split <;> exact hled) | exact hled
      · intro h' ys sb py r; dsimp only; exact wpAny_pure (fin h' ys sb py r)
    · refine wpAny_bind (wpAny_pure ?_)
      simp only [↓reduceIte]
      refine setS_tail ?_ ho hex hd g1 nd1 hb1 hf1 hr1 hled ?_
      · intro b s₁ Q' q; cases b <;> first | exact wpAny_pure q | exact wpAny_rule q
      · intro h' ys sb py r; dsimp only; exact wpAny_pure (fin h' ys sb py r)
theorem setS_add {x : Str} {tk : Tok} {Q : Bool → Shared → Prop} (R : SetS P w s.heap a xs) (room : xs.length + 1 < scanBound)
    (hQ : ∀ b h' tk' ys, Heap.SameBut a s.heap h' → s.toks ≤ tk' → SetS P w h' a ys → (if x ∈ xs then ys.Perm xs else ys.Perm (x :: xs)) → Q b { s with heap := h', toks := tk' }) :
    wpAny (model P w) A (setAdd a (.str x tk)) Q E s := by
  unfold setAdd
  refine wpAny_holding (wpAny_bind ((mixKind P w).pyHash (k := Sum.inr x) (mixS x tk) ?_))
  exact setS_addH (s2 := { s with toks := s.toks + 1 }) R room fun b h' ys h1 h2 h3 => hQ b h' (s.toks + 1) ys h1 (Nat.le_succ _) h2 h3
theorem setS_fresh {h : Heap} (ho : h.get? a = some (newSetO w)) : SetS P w h a [] :=
  ⟨_, #[], 0, _, ho, ⟨rfl, rfl, rfl⟩, rfl, (fun e he => by cases he), rfl, List.nodup_nil, by decide, rfl, List.Pairwise.nil, by
    show _ ∨ (!w.params.followText "set-order") = true
    cases w.params.followText "set-order"
    · exact .inr rfl
    · exact .inl rfl⟩
end
end K02
set_option Elab.async false
set_option linter.all false
set_option maxRecDepth 100000
set_option maxHeartbeats 4000000
/-! Sets of texts as rules: made of a list, their length, sorted. -/
namespace K02
open PySem PySem.Spec PyProof.Rows L2 PySem.W
/-- each once -/
def dd : List Str → List Str
  | [] => []
  | x :: r => if x ∈ r then dd r else x :: dd r
theorem mem_dd {x : Str} : ∀ {l : List Str}, x ∈ dd l ↔ x ∈ l
  | [] => Iff.rfl
  | y :: r => by
    unfold dd
    split
    · rename_i h
      rw [mem_dd, List.mem_cons]
      exact ⟨.inr, fun z => z.elim (fun e => e ▸ h) id⟩
    · rw [List.mem_cons, List.mem_cons, mem_dd]
theorem nodup_dd : ∀ l : List Str, (dd l).Nodup
  | [] => List.nodup_nil
  | y :: r => by
    unfold dd
    split
    · exact nodup_dd r
    · rename_i h
      exact List.nodup_cons.mpr ⟨fun z => h (mem_dd.mp z), nodup_dd r⟩
theorem len_dd : ∀ l : List Str, (dd l).length ≤ l.length
  | [] => Nat.le_refl _
  | y :: r => by
    unfold dd
    have := len_dd r
    split <;> simp <;> omega
theorem dd_nodup : ∀ {l : List Str}, l.Nodup → dd l = l
  | [], _ => rfl
  | y :: r, h => by
    obtain ⟨h1, h2⟩ := List.nodup_cons.mp h
    unfold dd
    rw [if_neg h1, dd_nodup h2]
theorem dd_len_eq : ∀ {l : List Str}, (dd l).length = l.length ↔ l.Nodup
  | [] => ⟨fun _ => List.nodup_nil, fun _ => rfl⟩
  | y :: r => by
    constructor
    · intro h
      by_cases c : y ∈ r
      · unfold dd at h
        rw [if_pos c, List.length_cons] at h
        have := len_dd r
        omega
      · unfold dd at h
        rw [if_neg c, List.length_cons, List.length_cons] at h
        exact List.nodup_cons.mpr ⟨c, dd_len_eq.mp (by omega)⟩
    · intro h
      rw [dd_nodup h]
theorem dd_perm {l ys : List Str} (n : ys.Nodup) (m : ∀ x, x ∈ ys ↔ x ∈ l) : ys.Perm (dd l) := (List.perm_ext_iff_of_nodup n (nodup_dd l)).mpr fun x => (m x).trans mem_dd.symm
abbrev sortS (l : List Str) : List Str := l.mergeSort (dataLe false fun s => PyData.str s)
theorem strLe : (dataLe false fun s : Str => PyData.str s) = fun a b => decide (a.cps.toList ≤ b.cps.toList) := dataLe_str (fun s : Str => s)
theorem sortS_perm {l m : List Str} (p : l.Perm m) : sortS l = sortS m := by
  unfold sortS
  rw [strLe]
  have tr : ∀ a b c : Str, decide (a.cps.toList ≤ b.cps.toList) = true → decide (b.cps.toList ≤ c.cps.toList) = true → decide (a.cps.toList ≤ c.cps.toList) = true := fun a b c h1 h2 => decide_eq_true (List.le_trans (of_decide_eq_true h1) (of_decide_eq_true h2))
  have tot : ∀ a b : Str, (decide (a.cps.toList ≤ b.cps.toList) || decide (b.cps.toList ≤ a.cps.toList)) = true := fun a b => by
    rcases List.le_total a.cps.toList b.cps.toList with h | h
    · simp [h]
    · simp [h]
  refine List.Perm.eq_of_pairwise (le := fun a b => decide (a.cps.toList ≤ b.cps.toList) = true) (fun a b _ _ h1 h2 => ?_) (List.pairwise_mergeSort tr tot l) (List.pairwise_mergeSort tr tot m) (((List.mergeSort_perm l _).trans p).trans (List.mergeSort_perm m _).symm)
  exact str_of_cps (List.le_antisymm (of_decide_eq_true h1) (of_decide_eq_true h2))
theorem perm_sortS (l : List Str) : (sortS l).Perm l := List.mergeSort_perm l _
def SetSO (P : Program) (w : World) (a : Addr) (ys : List Str) : HO := .ext fun h => SetS P w h a ys
theorem setSO_new {P : Program} {w : World} {H : Hp} {h : Heap} {a : Addr} {ys : List Str} (R : SetS P w h a ys) : ObjOk P w H h a (SetSO P w a ys) := by
  have ⟨o, es, ep, t, ho, r⟩ := R.ex
  exact ⟨R, ⟨o, ho⟩, fun h1 h2 p k => SetS.at p k⟩
section
variable {X : Cx}
/-- set(l), l a list of texts -/
def rSetL (K : PySem.W.Frag) (P : Program) (w : World) : List V → Hp → VK → Prop := fun xs H Q => ∃ (l : Addr) (ns : List Str), xs = [V.ref l] ∧ SqL K H l (ns.map V.str) ∧ ns.length ≤ 1000 ∧ ∀ p ys, H p = none → ys.Perm (dd ns) → Q (.ref p) (upd H p (SetSO P w p ys))
/-- what the first i texts leave -/
structure GotS (P : Program) (w : World) (ns : List Str) (S : Addr) (i : Nat) (h : Heap) : Prop where
  ex : ∃ xs, SetS P w h S xs ∧ (∀ x, x ∈ xs ↔ x ∈ ns.take i)
theorem gotS_add {P : Program} {w : World} {A : Around} {ns : List Str} {S : Addr} {i : Nat} {x : Str} {tk : Tok} (hz : ns.length ≤ 1000) (h : ns[i]? = some x) : JAdd P w A S (GotS P w ns S) i (.str x tk) := fun E s ⟨xs, R, m⟩ Q q => by
  have nd : xs.Nodup := by
    obtain ⟨_, _, _, _, _, _, _, _, _, nd, _⟩ := R.ex
    exact nd
  have hl : xs.length ≤ 1000 := by
    have p := dd_perm nd m
    have := p.length_eq
    have := len_dd (ns.take i)
    rw [List.length_take] at this
    omega
  refine setS_add R (by show _ < 4096; omega) fun b h' tk' ys sb ht Ry py => q b h' tk' sb ht ⟨ys, Ry, fun z => ?_⟩
  rw [take_one h, List.mem_append, List.mem_singleton, ← m z]
  split at py
  · rename_i hx
    rw [py.mem_iff]
    exact ⟨.inl, fun c => c.elim id fun e => e ▸ hx⟩
  · rw [py.mem_iff, List.mem_cons]
    exact or_comm
theorem cr_setL (hc : X.calm = true) : CallR X (.type "set") (rSetL X.K X.prog X.w) := by
  intro pins s σ H xs us Q I r h
  obtain ⟨l, ns, rfl, hl, hz, q⟩ := h
  rw [Vals.ref1 r]
  obtain ⟨its, rv, pl, hz2⟩ := I.list hl
  have hn : H s.heap.objs.size = none := I.hok.fresh (Nat.le_refl _)
  have hlen : its.length = ns.length := by rw [← rv.length, List.length_map]
  refine call_set_G (P := X.prog) (w := X.w) (I.ok.hd hc) pl.isList (GotS X.prog X.w ns s.heap.objs.size) (fun i h h' ⟨xs, R, m⟩ k => ⟨xs, R.at fun o e => k _ o (.inr rfl) e, m⟩) (fun h ho _ => ⟨[], setS_fresh ho, fun x => by simp⟩) (fun i v hv => ?_) fun h' tk ⟨ys, R, m⟩ k => ?_
  · have e1 : its[i]? = some v := by simpa using hv
    have hi : i < ns.length := by rw [← hlen]; exact (List.getElem?_eq_some_iff.mp e1).1
    have e2 : (ns.map V.str)[i]? = some (V.str ns[i]) := by rw [List.getElem?_map, List.getElem?_eq_getElem hi]; rfl
    obtain ⟨u, h1, h2⟩ := rv.get e2
    rw [e1] at h1
    cases h1
    obtain ⟨tk, rfl⟩ := h2
    exact gotS_add hz (List.getElem?_eq_getElem hi)
  · have nd : ys.Nodup := by
      obtain ⟨_, _, _, _, _, _, _, _, _, nd, _⟩ := R.ex
      exact nd
    have m2 : ∀ x, x ∈ ys ↔ x ∈ ns := fun x => by
      rw [m x, List.size_toArray, hlen, List.take_length]
    exact ⟨.ref s.heap.objs.size, _, I.laid (t' := tk) k (Nat.le_refl _) (setSO_new R), rfl, q _ ys hn (dd_perm nd m2)⟩
/-- len of it -/
theorem call_lenSet : CallR X (.builtin "len") (fun xs H Q => ∃ p ys, xs = [V.ref p] ∧ Rd H p (SetSO X.prog X.w p ys) ∧ Q (.int ys.length) H) := by
  intro pins s σ H xs us Q I r h
  obtain ⟨p, ys, rfl, hp, q⟩ := h
  rw [Vals.ref1 r]
  have R : SetS X.prog X.w s.heap p ys := (show ObjOk X.prog X.w H s.heap p (SetSO X.prog X.w p ys) from rd_of I.hok hp).1
  obtain ⟨o, es, ep, t, ho, hex, hd, g, hm, nd, hb, hf, _⟩ := R.ex
  have hn : es.size = ys.length := by rw [← hm, List.length_map, Array.length_toList]
  refine call_len_set ho hex hd hf (by unfold scanBound at hb; omega) ⟨.int ys.length, H, I.tok _, ⟨_, by rw [hn]⟩, q⟩
/-- sorted of it -/
theorem cr_srtSet (hc : X.calm = true) (hu : X.A.units + 64 < cLine) : CallR X (.builtin "sorted") (fun xs H Q => ∃ p ys, xs = [V.ref p] ∧ Rd H p (SetSO X.prog X.w p ys) ∧ ∀ q, H q = none → Q (.ref q) (upd H q (.lst ((sortS ys).map V.str)))) := by
  intro pins s σ H xs us Q I r h
  obtain ⟨p, ys, rfl, hp, q⟩ := h
  rw [Vals.ref1 r]
  have R : SetS X.prog X.w s.heap p ys := (show ObjOk X.prog X.w H s.heap p (SetSO X.prog X.w p ys) from rd_of I.hok hp).1
  obtain ⟨o, es, ep, t, ho, hex, hd, g, hm, nd, hb, hf, hr, hl⟩ := R.ex
  have hn : es.size = ys.length := by rw [← hm, List.length_map, Array.length_toList]
  refine sorted_core (enc := fun x : Str => PyData.str x) (R := fun v x => ∃ z, RelV z v ∧ z = V.str x) (bs0 := ys) (fun z => z.Perm ys) (fun z e => e) (fun Q1 E1 h1 => ?_) (AllAlike.of fun _ _ => rfl) (Sortable.others fun c => ⟨(fun e => nomatch e), fun xs e => nomatch e⟩) (by unfold scanBound at hb; omega)
    (fun b hb => by show _ + 0 < _; omega) fun s1 s' p out c bs' pb k1 k g o hp hg e => ?_
  · refine collect_set (A := X.A.in1) (show X.A.in1.handled = none from I.ok.hd hc) ⟨o, ho, hex.1, hd⟩ hf hb hr hl fun s1 out k1 hz g1 o1 pm => ?_
    have each : ∀ (l : List Value), (∀ v ∈ l, ∃ x tk, v = Value.str x tk) → ∃ zs : List Str, EachIs (fun v x => ∃ tk, v = Value.str x tk) l zs ∧ zs = l.map fun v => keyS (0, v) := fun l => by
      induction l with
      | nil => intro _; exact ⟨[], .nil, rfl⟩
      | cons v r ih =>
        intro hv
        obtain ⟨x, tk, e⟩ := hv v List.mem_cons_self
        obtain ⟨zs, h1, h2⟩ := ih fun u hu => hv u (List.mem_cons_of_mem _ hu)
        refine ⟨x :: zs, .cons ⟨tk, e⟩ h1, ?_⟩
        rw [List.map_cons, h2, e]
        rfl
    obtain ⟨zs, ez, eq⟩ := each out fun v hv => by
      obtain ⟨e, he, e2⟩ := List.mem_map.mp (pm.mem_iff.mp hv)
      obtain ⟨x, tk, h1, _⟩ := g e he
      exact ⟨x, tk, by rw [← e2, h1]⟩
    have pz : zs.Perm ys := by
      have := pm.map fun v => keyS (0, v)
      rw [← eq, List.map_map] at this
      rw [← hm]
      exact this
    exact h1 s1 out zs pz k1 g1 o1 (ez.mono fun v x ⟨tk, e⟩ => ⟨.str x, ⟨tk, e⟩, rfl⟩) (ez.mono fun v x ⟨tk, e⟩ => ⟨_, by rw [e]; exact Reads.str _ _⟩)
  · obtain ⟨zs, h1, h2⟩ := each_vals e
    have ez := pr_eq_map h2
    rw [show bs'.mergeSort (dataLe false fun x : Str => PyData.str x) = sortS ys from sortS_perm pb] at ez
    rw [ez] at h1
    refine fin_list I k1 k g o hp hg h1 ?_ (q p)
    rw [List.length_map, List.length_mergeSort, sizeLine_eq]
    unfold scanBound at hb
    omega
end
end K02
set_option Elab.async false
set_option linter.all false
set_option maxRecDepth 100000
set_option maxHeartbeats 4000000
namespace K02
open PySem PySem.Spec PyProof.Rows
section
variable {P : Program} {w : World} {A : Around} {E : Value → Shared → Prop} {s : Shared}
/-- set(x), x a text -/
theorem call_set_Gs {x : Str} {tx : Tok} {Q : Value → Shared → Prop} (hh : A.handled = none) (J : Nat → Heap → Prop) (jk : ∀ i h h', J i h → (∀ b o, (s.heap.get? b ≠ none ∨ b = s.heap.objs.size) → h.get? b = some o → h'.get? b = some o) → J i h')
    (j0 : ∀ h, h.get? s.heap.objs.size = some (newSetO w) → (∀ b o, s.heap.get? b = some o → h.get? b = some o) → J 0 h)
    (ja : ∀ i v, SignAt x i v → JAdd P w A.in1.in1.in1 s.heap.objs.size J i v)
    (h : ∀ (h' : Heap) (tk : Nat), J x.cps.size h' → (∀ b o, s.heap.get? b = some o → h'.get? b = some o) → Q (.ref s.heap.objs.size) { s with heap := h', toks := tk }) :
    wpAny (model P w) A (call (.type "set") [.str x tx]) Q E s := by
  obtain ⟨c, tl, hmro⟩ := F.called_set.mro
  have hmade := F.called_set.made
  have hsub := F.called_set.sub
  refine wpAny_call (codeAny_of_tree ?_)
  show wpAny _ _ (callAny (.type "set") _) _ _ _
  refine wpAny_pure ⟨Code.quiet_builtin _ (by decide +kernel), codeAny_builtin F.entry_type_call ?_⟩
  rw [Around.under_plain (weight_type_call_type "set" [.str x tx] []) rfl]
  have h1 := F.called_set.notType
  have h2 := F.called_set.canCreate
  have hct := F.typeCall_set_1 (.str x tx)
  repeat (any_goals (first | assumption | wp_step))
  refine codeAny_mono (L2.code_set_led1 (.str x tx) (E := E) (Q₁ := fun obj s₁ => obj = .ref s.heap.objs.size ∧ s₁ = { s with heap := s.heap.push (newSetO w) }) ⟨rfl, rfl⟩) fun r s₁ hr => ?_
  cases r with
  | error e => exact hr
  | ok fl =>
    cases fl with
    | ret obj =>
      obtain ⟨rfl, rfl⟩ := hr
      have hS : (s.heap.push (newSetO w)).get? s.heap.objs.size = some (newSetO w) := Heap.get?_push_size _ rfl
      have hT : Shared.TypeIs { s with heap := s.heap.push (newSetO w) } (.ref s.heap.objs.size) "set" := ⟨_, hS, rfl⟩
      have hli := F.called_set.init.lookup
      have hbi := F.called_set.init.bind (.ref s.heap.objs.size)
      repeat (any_goals (first | assumption | wp_step))
      refine codeAny_mono (codeAny_call_builtin (R := wants (fun r s₂ => r = .none ∧ ∃ h' tk, s₂ = { s with heap := h', toks := tk } ∧ J x.cps.size h' ∧ (∀ b o, s.heap.get? b = some o → h'.get? b = some o)) E) F.called_set.init.plain F.entry_set_init (check_set_init_1 hT ?_)) fun r₂ s₂ hr₂ => ?_
      · have hss : isSubtype (.type "str") (.type "set") = pure false := by rw [isSubtype_type]; kernel_rfl
        have hsf : isSubtype (.type "str") (.type "frozenset") = pure false := by rw [isSubtype_type]; kernel_rfl
        have hne : (Value.type "str" == Value.type "dict") = false := by decide
        unfold Builtin.«set.__init__» noKeywords Builtin.Frozenset.updateFrom
        generalize hPI : pyIter = PI
        wp_walk
        subst hPI
        refine wpAny_pyIter_str fun oI St W hst0 => ?_
        refine wpAny_bind (wpAny_runValue ?_)
        have hh3 : A.in1.in1.in1.handled = none := by simp [hh]
        have hSf : s.heap.objs.size ∉ [(s.heap.push (newSetO w)).objs.size] := by
          rw [Heap.size_push]; simp only [List.mem_singleton]
          exact Nat.ne_of_lt (Nat.lt_succ_self _)
        have lt_of : ∀ {b o}, s.heap.get? b = some o → b < s.heap.objs.size := fun e => Heap.lt_size e
        refine set_loop (R := _) ((W _ hh3).toS) s.heap.objs.size hSf J (fun i h h' hj hk => jk i h h' hj fun b o hb e => hk b o (fun hm => ?_) e) (fun i v hi hv => ja i v hv) (x.cps.size - 0) 0 _ (by omega) (Nat.zero_le _)
          hst0 (j0 _ (Heap.get?_push_of_some _ hS) fun b o e => Heap.get?_push_of_some _ (Heap.get?_push_of_some _ e)) ?hR
        case hR =>
          intro s' hm hj
          obtain ⟨h', g2, d', tk', os'⟩ := s'
          have eg : g2 = s.gens := hm.gens
          have ed : d' = s.drawn := hm.drawn
          have eo : os' = s.os := hm.os
          subst eg; subst ed; subst eo
          show wpAny _ _ _ _ _ _
          refine wpAny_pure ?_
          show wpAny _ _ (ret Value.none) _ _ _
          refine wpAny_pure ⟨rfl, h', tk', rfl, hj, fun b o e => ?_⟩
          have hb1 : b ≠ s.heap.objs.size := Nat.ne_of_lt (lt_of e)
          have hb2 : b ≠ (s.heap.push (newSetO w)).objs.size := by
            rw [Heap.size_push]; exact Nat.ne_of_lt (Nat.lt_succ_of_lt (lt_of e))
          exact hm.heap b o (by simp only [List.mem_cons, List.mem_singleton, List.not_mem_nil, or_false, not_or]; exact ⟨hb1, hb2⟩) (Heap.get?_push_of_some _ (Heap.get?_push_of_some _ e))
        · have hm : b = (s.heap.push (newSetO w)).objs.size := List.mem_singleton.mp hm
          rw [Heap.size_push] at hm
          rcases hb with hb | hb
          · cases q : s.heap.get? b with
            | none => exact hb q
            | some o2 => exact absurd (lt_of q) (by rw [hm]; exact Nat.not_lt.mpr (Nat.le_succ _))
          · exact absurd (hb.symm.trans hm) (Nat.ne_of_lt (Nat.lt_succ_self _))
      · cases r₂ with
        | error e => exact hr₂
        | ok fl₂ =>
          cases fl₂ with
          | ret r =>
            obtain ⟨rfl, h', tk, rfl, hj, hk'⟩ := hr₂
            repeat (any_goals (first | assumption | wp_step))
            exact h _ _ hj hk'
          | _ => exact hr₂.elim
    | _ => exact hr.elim
end
end K02
set_option Elab.async false
set_option linter.all false
set_option maxRecDepth 100000
set_option maxHeartbeats 4000000
/-! Sets of texts, typed. -/
namespace K02
open PySem PySem.Spec PyProof.Rows L2 PySem.W
section
variable {X : Cx}
/-- set(z), z a text: its signs -/
def signsOf (z : Str) : List Str := z.cps.toList.map sign
def rSetStr (P : Program) (w : World) : List V → Hp → VK → Prop := fun xs H Q => ∃ z : Str, xs = [V.str z] ∧ z.length ≤ 1000 ∧ ∀ p ys, H p = none → ys.Perm (dd (signsOf z)) → Q (.ref p) (upd H p (SetSO P w p ys))
theorem cr_setStr (hc : X.calm = true) : CallR X (.type "set") (rSetStr X.prog X.w) := by
  intro pins s σ H xs us Q I r h
  obtain ⟨z, rfl, hz, q⟩ := h
  obtain ⟨u, rfl, t, rfl⟩ := vals1 r
  have hn : H s.heap.objs.size = none := I.hok.fresh (Nat.le_refl _)
  have hlen : (signsOf z).length = z.cps.size := by unfold signsOf; rw [List.length_map, Array.length_toList]
  have hz2 : z.cps.size ≤ 1000 := hz
  refine call_set_Gs (P := X.prog) (w := X.w) (I.ok.hd hc) (GotS X.prog X.w (signsOf z) s.heap.objs.size) (fun i h h' ⟨xs, R, m⟩ k => ⟨xs, R.at fun o e => k _ o (.inr rfl) e, m⟩) (fun h ho _ => ⟨[], setS_fresh ho, fun x => by simp⟩) (fun i v hv => ?_) fun h' tk ⟨ys, R, m⟩ k => ?_
  · obtain ⟨c, u, h1, rfl⟩ := hv
    refine gotS_add (by omega) ?_
    unfold signsOf
    rw [List.getElem?_map, Array.getElem?_toList, h1]
    rfl
  · have nd : ys.Nodup := by
      obtain ⟨_, _, _, _, _, _, _, _, _, nd, _⟩ := R.ex
      exact nd
    have m2 : ∀ x, x ∈ ys ↔ x ∈ signsOf z := fun x => by
      rw [m x, ← hlen, List.take_length]
    exact ⟨.ref s.heap.objs.size, _, I.laid (t' := tk) k (Nat.le_refl _) (setSO_new R), rfl, q _ ys hn (dd_perm nd m2)⟩
end
def tySet (P : Program) (w : World) (ns : List Str) : Ty := ⟨fun v H => ∃ p ys, v = .ref p ∧ Rd H p (SetSO P w p ys) ∧ ys.Perm (dd ns), fun {v H H'} k ⟨p, ys, e, h, r⟩ => ⟨p, ys, e, k.sf (u := SetSO P w p ys) True.intro h, r⟩⟩
section
variable {K : PySem.W.Frag} {P : Program} {w : World} {σ : Sl} {D D' H : Hp} {te : TE} {ns : List Str}
theorem rc_setL (hz : ns.length ≤ 1000) : RC (rSetL K P w) [tyL (ns.map tyS)] (tySet P w ns) := fun xs D H k h Q q => by
  obtain ⟨v, rfl, a, vs, rfl, ha, hv⟩ := args1 h
  have e1 : vs = ns.map V.str := all_flat (by rw [List.map_map]; exact hv)
  subst e1
  refine ⟨a, ns, rfl, SqL.of (k.q.fx (u := .lst _) True.intro ha), hz, fun p ys hp py => q (.ref p) _ _ ((Grow.refl k).add (u := SetSO P w p ys) hp (.inr True.intro)) ⟨p, ys, rfl, .inl upd_same, py⟩⟩
theorem rc_setStr {z : Str} (hz : z.length ≤ 1000) : RC (rSetStr P w) [tyS z] (tySet P w (signsOf z)) := fun xs D H k h Q q => by
  obtain ⟨v, rfl, hv⟩ := args1 h
  have hv : v = .str z := hv
  subst hv
  exact ⟨z, rfl, hz, fun p ys hp py => q (.ref p) _ _ ((Grow.refl k).add (u := SetSO P w p ys) hp (.inr True.intro)) ⟨p, ys, rfl, .inl upd_same, py⟩⟩
theorem rc_lenSet : RC (fun xs H Q => ∃ p ys, xs = [V.ref p] ∧ Rd H p (SetSO P w p ys) ∧ Q (.int ys.length) H) [tySet P w ns] (tyI (dd ns).length) := fun xs D H k h Q q => by
  obtain ⟨v, rfl, p, ys, rfl, hp, py⟩ := args1 h
  exact ⟨p, ys, rfl, k.q.sf (u := SetSO P w p ys) True.intro hp, q _ D H (Grow.refl k) (by rw [py.length_eq]; rfl)⟩
theorem rc_srtSet : RC (fun xs H Q => ∃ p ys, xs = [V.ref p] ∧ Rd H p (SetSO P w p ys) ∧ ∀ q, H q = none → Q (.ref q) (upd H q (.lst ((sortS ys).map V.str)))) [tySet P w ns] (tyL ((sortS (dd ns)).map tyS)) := fun xs D H k h Q q => by
  obtain ⟨v, rfl, p, ys, rfl, hp, py⟩ := args1 h
  refine ⟨p, ys, rfl, k.q.sf (u := SetSO P w p ys) True.intro hp, fun l hl => ?_⟩
  rw [sortS_perm py]
  refine q (.ref l) _ _ ((Grow.refl k).add (u := .lst _) hl (.inl True.intro)) ⟨l, _, rfl, upd_same, ?_⟩
  have := tysAt_of (xs := (sortS (dd ns)).map V.str) (H := upd D l (.lst ((sortS (dd ns)).map V.str)))
  rw [List.map_map] at this
  exact this
/-- len(set(ns)) -/
theorem ev_lenSet (hz : ns.length ≤ 1000) (e : Ev te σ D (tyL (ns.map tyS))) : Ev (tCB (fun xs H Q => ∃ p ys, xs = [V.ref p] ∧ Rd H p (SetSO P w p ys) ∧ Q (.int ys.length) H) (tCons (tCB (rSetL K P w) (tCons te tNil)) tNil)) σ D (tyI (dd ns).length) :=
  ev_cb (ea_cons (ev_cb (ea_cons e ea_nil) (rc_setL hz)) ea_nil) rc_lenSet
theorem ev_lenSetStr {z : Str} (hz : z.length ≤ 1000) (e : Ev te σ D (tyS z)) : Ev (tCB (fun xs H Q => ∃ p ys, xs = [V.ref p] ∧ Rd H p (SetSO P w p ys) ∧ Q (.int ys.length) H) (tCons (tCB (rSetStr P w) (tCons te tNil)) tNil)) σ D (tyI (dd (signsOf z)).length) :=
  ev_cb (ea_cons (ev_cb (ea_cons e ea_nil) (rc_setStr hz)) ea_nil) rc_lenSet
/-- sorted(xs), xs texts -/
theorem rc_srtStrs (hz : ns.length ≤ 1000) : RC (rSrtL K) [tyL (ns.map tyS)] (tyL ((sortS ns).map tyS)) :=
  rc_sortL (τ := tyS) (enc := fun s => PyData.str s) (fun s => dp_str) (AllAlike.of fun _ _ => rfl) (Sortable.others fun c => ⟨(fun e => nomatch e), fun xs e => nomatch e⟩) (by omega) fun b _ => Nat.zero_le _
end
end K02
set_option Elab.async false
set_option linter.all false
set_option maxRecDepth 100000
set_option maxHeartbeats 4000000
namespace K02
open PySem PySem.Spec PyProof.Rows L2
section
variable {P : Program} {w : World} {K : PySem.W.Frag} {mg : Str → Option Value} {base : Heap}
/-- the body hands back what an expression comes to -/
theorem ret_ev {te : TE} {σ : Sl} {D H : Hp} {t : Ty} {En : Ends} (e : Ev te σ D t) (k : Kp D H) (q : ∀ v D' H', Grow D H D' H' → t.p v D' → En.rt v H') : tRet te En σ H := e.use k q

abbrev sp_is_whole : Sp := SpF (fun i : Int => [tyI i]) (fun _ => tyB true) (fun _ => True)
theorem cal_is_whole (F : Fc K mg) : Cal P w K mg base 1 "is_whole" sp_is_whole := mk_is_whole F (fun _ _ _ _ h => SpF.len (n := 1) (fun _ => rfl) h) fun f cdv A outer s H vs Q E hr h => by
  have nd := sc_is_whole.nd
  obtain ⟨i, D, c, k, tv, q⟩ := h
  refine ⟨_, (pss_one (ps_ret (pe_and (pe_callB call_isi (by rfl) F.f_isinstance (by decide +kernel) (pa_cons (pv 0) (pa_cons (pe_bltn (v := .ty "int") (by rfl) F.f_int (by decide +kernel) rfl) pa_nil))) (pe_one (pe_not (pe_callB call_isi (by rfl) F.f_isinstance (by decide +kernel) (pa_cons (pv 0) (pa_cons (pe_bltn (v := .ty "bool") (by rfl) F.f_bool (by decide +kernel) rfl) pa_nil)))))))), ?_⟩
  cases tv with
  | cons h1 h2 =>
    cases h2
    have x0 : Ev (tVar 0) (start n_is_whole [_]) D (tyI i) := ev_var rfl h1
    exact ret_ev (ev_andV (ev_isi x0 is_int (b := true) (by decide +kernel)) fun _ => ev_notV (ev_isi x0 is_int (b := false) (by decide +kernel))) k q

abbrev sp_is_signs : Sp := SpF (fun z : Str => [tyS z]) (fun _ => tyB true) (fun z => z.length ≤ 1000 ∧ ∀ c ∈ z.cps.toList, c ∈ ("abcdefghijklmnopqrstuvwxyz0123456789" : Str).cps.toList)
theorem cal_is_signs (F : Fc K mg) : Cal P w K mg base 1 "is_signs" sp_is_signs := mk_is_signs F (fun _ _ _ _ h => SpF.len (n := 1) (fun _ => rfl) h) fun f cdv A outer s H vs Q E hr h => by
  have nd := sc_is_signs.nd
  obtain ⟨z, D, ⟨hz, hc⟩, k, tv, q⟩ := h
  refine ⟨_, (pss_one (ps_ret (pe_and (pe_callB call_isi (by rfl) F.f_isinstance (by decide +kernel) (pa_cons (pv 0) (pa_cons (pe_bltn (v := .ty "str") (by rfl) F.f_str (by decide +kernel) rfl) pa_nil))) (pe_one (pe_callB (cr_all rfl) (by rfl) F.f_all (by decide +kernel) (pa_cons (pe_lc (own := [("sign", 1)]) rfl nd (pi_str (pv 0)) (blkOk_by (N := n_is_signs) (sc := defScope s_is_signs) (by decide +kernel)) (fun _ _ _ _ _ => (pg_name (i := 1) nd rfl (.inl rfl))) (fun _ _ _ _ _ => pts_nil) (fun _ _ _ _ _ => (pe_cmpR op_in_sign (pv 1) (C8.pe_gc (by rfl) F.vs_SIGNS) rfl))) pa_nil)))))), ?_⟩
  cases tv with
  | cons h1 h2 =>
    cases h2
    have x0 : Ev (tVar 0) (start n_is_signs [_]) D (tyS z) := ev_var rfl h1
    have all : (z.cps.toList.all fun c => decide (c ∈ ("abcdefghijklmnopqrstuvwxyz0123456789" : Str).cps.toList)) = true := List.all_eq_true.mpr fun c hm => decide_eq_true (hc c hm)
    refine ret_ev (t := tyB true) (ev_is (t := tyB (true && true)) rfl (ev_andV (ev_isi x0 is_str (b := true) (by decide +kernel)) fun _ => ev_is (by rw [all]) (ev_cb (ea_cons (ev_lcm (fun c => tyS (sign c)) _ (evi_str x0).i ?_ fun c _ D1 k1 x hx => lcel rfl (ev_op (ev_var (i := 1) rfl hx) ev_c rv_inSign)) ea_nil) rc_allF))) k q
    show z.cps.toList.length ≤ 100000
    have : z.cps.toList.length = z.length := by simp [Str.length]
    omega
end
end K02
set_option Elab.async false
set_option linter.all false
set_option maxRecDepth 100000
set_option maxHeartbeats 4000000
namespace K02
open PySem PySem.Spec PyProof.Rows L2
/-! ### rows -/
abbrev Item := Sum Str Str
def tyItem : Item → Ty
  | .inl s => tyS s
  | .inr r => tyT [tyS r]
abbrev tyRow (row : List Item) : Ty := tyT (row.map tyItem)
def dItem : Item → PyData
  | .inl s => .str s
  | .inr r => .tuple [.str r]
def regOf : Item → Option Str
  | .inl _ => none
  | .inr r => some r
abbrev regsOf (row : List Item) : List Str := row.filterMap regOf
def itemT : Item → String
  | .inl _ => "str"
  | .inr _ => "tuple"
def okItem (z : Nat) : Item → Prop
  | .inl s => s.length ≤ z ∧ PyData.strOk s = true
  | .inr r => PyData.strOk r = true
section
variable {P : Program} {w : World} {K : PySem.W.Frag} {mg : Str → Option Value} {base : Heap}
theorem is_item (i : Item) : TyIs K (tyItem i) (itemT i) := by
  cases i with
  | inl s => exact is_str
  | inr r => exact is_tup
theorem is_inl {s : Str} : TyIs K (tyItem (.inl s)) "str" := is_str
theorem is_inr {r : Str} : TyIs K (tyItem (.inr r)) "tuple" := is_tup
theorem dp_item (i : Item) : IsDp K (tyItem i) (dItem i) := by
  cases i with
  | inl s => exact dp_str
  | inr r => exact dp_tup1 dp_str

abbrev sp_registers_in : Sp := SpF (fun row : List Item => [tyRow row]) (fun row => tyL ((regsOf row).map tyS)) (fun row => row.length ≤ 100)
theorem cal_registers_in (F : Fc K mg) : Cal P w K mg base 1 "registers_in" sp_registers_in := mk_registers_in F (fun _ _ _ _ h => SpF.len (n := 1) (fun _ => rfl) h) fun f cdv A outer s H vs Q E hr h => by
  have nd := sc_registers_in.nd
  obtain ⟨row, D, hz, k, tv, q⟩ := h
  refine ⟨_, (pss_one (ps_ret (pe_lc (own := [("item", 1)]) rfl nd (k_pi_tup (pv 0)) (blkOk_by (N := n_registers_in) (sc := defScope s_registers_in) (by decide +kernel)) (fun _ _ _ _ _ => (pg_name (i := 1) nd rfl (.inl rfl))) (fun _ _ _ _ _ => pts_one (pt_val (pe_callB k_isi (by rfl) F.f_isinstance bt_isinstance (pa_cons (pv 1) (pa_cons (pe_bltn (v := .ty "tuple") (by rfl) F.f_tuple bt_tuple rfl) pa_nil))))) (fun _ _ _ _ _ => (pe_ix k_ix_tup (pv 1) pe_int (fun _ _ => rfl)))))), ?_⟩
  obtain ⟨v0, rfl, h0⟩ := args1 tv
  · have x0 : Ev (tVar 0) (start n_registers_in [v0]) D (tyRow row) := ev_var rfl h0
    refine ret_ev (t := tyL ((regsOf row).map tyS)) (ev_is (by rw [List.map_filterMap]) (ev_lc (out := fun i => (regOf i).map tyS) tyItem (evi_tup x0).i (by omega) fun i hi D1 k1 x hx => ?_)) k q
    cases i with
    | inl s => exact lcel_if (b := false) rfl (eb_B (ev_isi (ev_var (i := 1) rfl hx) is_inl (by decide +kernel))) (fun h => by cases h) fun _ => rfl
    | inr r => exact lcel_if (b := true) rfl (eb_B (ev_isi (ev_var (i := 1) rfl hx) is_inr (by decide +kernel))) (fun _ => ⟨tyS r, rfl, ev_op (ev_var (i := 1) rfl hx) ev_c (rv_ixT rfl)⟩) fun h => by cases h

/-- the text of an item -/
def itemS (g : Str → Str) : Item → Str
  | .inl s => s
  | .inr r => g r
abbrev tyHeld (regs : List Str) (g : Str → Str) : Ty := tyD (regs.map fun r => (Sum.inr r, tyS (g r)))
theorem has_held {regs : List Str} {f : Str → Ty} {r : Str} (h : r ∈ regs) : Has (regs.map fun r => ((Sum.inr r : Key), f r)) (.inr r) (f r) := has_map (fun r : Str => (Sum.inr r : Key)) f (fun x y e => by cases e; rfl) h
def textR (g : Str → Str) (row : List Item) : Str := glue (row.map (itemS g))
abbrev sp_text_of : Sp := SpF (fun x : List Item × List Str × (Str → Str) => [tyRow x.1, tyHeld x.2.1 x.2.2]) (fun x => tyS (textR x.2.2 x.1))
  (fun x => x.1.length ≤ 100 ∧ (∀ r, .inr r ∈ x.1 → r ∈ x.2.1) ∧ ((x.1.map (itemS x.2.2)).map (·.length)).sum ≤ 100000)
theorem cal_text_of (F : Fc K mg) : Cal P w K mg base 1 "text_of" sp_text_of := mk_text_of F (fun _ _ _ _ h => SpF.len (n := 2) (fun _ => rfl) h) fun f cdv A outer s H vs Q E hr h => by
  have nd := sc_text_of.nd
  have hu := Nat.lt_of_le_of_lt (Nat.add_le_add_left (by decide : 1 ≤ 64) _) hr.units
  obtain ⟨⟨row, regs, g⟩, D, ⟨hz, hm, hs⟩, k, tv, q⟩ := h
  refine ⟨_, (pss_one (ps_ret (pe_join pe_str (pe_lc (own := [("item", 2)]) rfl nd (k_pi_tup (pv 0)) (blkOk_by (N := n_text_of) (sc := defScope s_text_of) (by decide +kernel)) (fun _ _ _ _ _ => (pg_name (i := 2) nd rfl (.inl rfl))) (fun _ _ _ _ _ => pts_nil) (fun _ _ _ _ _ => (pe_ifExp (pt_val (pe_callB k_isi (by rfl) F.f_isinstance bt_isinstance (pa_cons (pv 2) (pa_cons (pe_bltn (v := .ty "str") (by rfl) F.f_str bt_str rfl) pa_nil)))) (pv 2) (pe_dget hu (pv 1) (pe_ix k_ix_tup (pv 2) pe_int (fun _ _ => rfl)) (fun _ _ => rfl)))))))), ?_⟩
  obtain ⟨v0, v1, rfl, h1, h2⟩ := args2 tv
  · · have x0 : Ev (tVar 0) (start n_text_of [v0, v1]) D (tyRow row) := ev_var rfl h1
      refine ret_ev (t := tyS (textR g row)) (ev_join (ys := row.map (itemS g)) (ev_is (by rw [List.map_map]; rfl) (ev_lcm (out := fun i => tyS (itemS g i)) tyItem (evi_tup x0).i (Nat.le_trans hz (by decide)) fun i hi D1 k1 x hx => ?_)) (Nat.le_trans hs (by decide))) k q
      cases i with
      | inl s => exact lcel rfl (ev_if (b := true) (eb_B (ev_isi (ev_var (i := 2) rfl hx) is_inl (by decide +kernel))) (fun _ => ev_var (i := 2) rfl hx) fun h => by cases h)
      | inr r => exact lcel rfl (ev_if (b := false) (eb_B (ev_isi (ev_var (i := 2) rfl hx) is_inr (by decide +kernel))) (fun h => by cases h) fun _ =>
          ev_dget (k := .inr r) (ev_var (i := 1) rfl ((tyHeld regs g).up k1.q h2)) (ev_op (ev_var (i := 2) rfl hx) ev_c (rv_ixT rfl)) (has_held (hm r hi)))

/-! ### joined -/
def joinStep (acc : List Item) (it : Item) : List Item := match it, acc.getLast? with
  | .inl s, some (.inl t) => acc.dropLast ++ [.inl (t ++ s)]
  | _, _ => acc ++ [it]
def joinR (row : List Item) : List Item := (row.foldl joinStep []).filter fun it => !PyData.eqv (dItem it) (.str Str.empty)
theorem okItem.mono {a b : Nat} (h : a ≤ b) {i : Item} (o : okItem a i) : okItem b i := by
  cases i with
  | inl s => exact ⟨Nat.le_trans o.1 h, o.2⟩
  | inr r => exact o
theorem strOk_append {s t : Str} (h1 : PyData.strOk s = true) (h2 : PyData.strOk t = true) : PyData.strOk (s ++ t) = true := by
  obtain ⟨a⟩ := s
  obtain ⟨b⟩ := t
  show (a ++ b).all _ = true
  rw [Array.all_append]
  exact Bool.and_eq_true_iff.mpr ⟨h1, h2⟩
theorem str_len_append (s t : Str) : (s ++ t).length = s.length + t.length := by
  obtain ⟨a⟩ := s
  obtain ⟨b⟩ := t
  exact Array.size_append
theorem joinStep_ok {z n : Nat} {acc : List Item} {it : Item} (h1 : ∀ i ∈ acc, okItem n i) (hit : okItem z it) (h4 : z ≤ n) : ∀ i ∈ joinStep acc it, okItem (n + z) i := by
  unfold joinStep
  split
  · rename_i s t e
    intro i hi
    rcases List.mem_append.mp hi with h | h
    · exact (h1 i (List.dropLast_subset _ h)).mono (by omega)
    · rw [List.mem_singleton.mp h]
      have ht := h1 _ (List.mem_of_getLast? e)
      exact ⟨by rw [str_len_append]; have := ht.1; have := hit.1; omega, strOk_append ht.2 hit.2⟩
  · intro i hi
    rcases List.mem_append.mp hi with h | h
    · exact (h1 i h).mono (by omega)
    · rw [List.mem_singleton.mp h]
      exact hit.mono (by omega)
theorem joinStep_len {acc : List Item} {it : Item} : (joinStep acc it).length ≤ acc.length + 1 := by
  unfold joinStep
  split
  · rw [List.length_append, List.length_dropLast]
    simp
  · simp
theorem join_ok {z : Nat} : ∀ {row acc : List Item} {n : Nat}, (∀ i ∈ acc, okItem n i) → (∀ i ∈ row, okItem z i) → z ≤ n → ∀ i ∈ row.foldl joinStep acc, okItem (n + row.length * z) i
  | [], acc, n, h1, h2, h4 => fun i hi => (h1 i hi).mono (by omega)
  | it :: row, acc, n, h1, h2, h4 => fun i hi => by
    have := join_ok (row := row) (n := n + z) (joinStep_ok h1 (h2 it List.mem_cons_self) h4) (fun i hi => h2 i (List.mem_cons_of_mem _ hi)) (by omega) i hi
    refine this.mono ?_
    rw [List.length_cons, Nat.succ_mul]
    omega
theorem join_len : ∀ {row acc : List Item}, (row.foldl joinStep acc).length ≤ acc.length + row.length
  | [], acc => by simp
  | it :: row, acc => by
    have h1 := join_len (row := row) (acc := joinStep acc it)
    have h2 := joinStep_len (acc := acc) (it := it)
    rw [List.length_cons, List.foldl_cons]
    omega
theorem shaped_items {z : Nat} {l : List Item} (h : ∀ i ∈ l, okItem z i) : SeqAt.shaped (.list (l.map dItem)) = true := by
  have c : PyData.canLayAll0 (l.map dItem) = true := by
    induction l with
    | nil => rfl
    | cons i r ih =>
      have hi := h i List.mem_cons_self
      rw [List.map_cons]
      show (PyData.canLay0 (dItem i) && _) = true
      rw [ih fun j hj => h j (List.mem_cons_of_mem _ hj), Bool.and_true]
      cases i with
      | inl s => exact hi.2
      | inr r =>
        show (PyData.strOk r && true) = true
        rw [Bool.and_true]
        exact hi
  have d : PyData.depthAll (l.map dItem) ≤ 1 := by
    clear h c
    induction l with
    | nil => exact Nat.zero_le _
    | cons i r ih =>
      rw [List.map_cons]
      show max (PyData.depth (dItem i)) _ ≤ 1
      refine Nat.max_le.mpr ⟨?_, ih⟩
      cases i with
      | inl s => exact Nat.zero_le _
      | inr r => exact Nat.le_refl _
  show (PyData.canLayAll0 (l.map dItem) && decide (PyData.depthAll (l.map dItem) + 1 ≤ 64)) = true
  rw [c, Bool.true_and]
  exact decide_eq_true (by omega)
theorem shaped_item {z : Nat} {i : Item} (h : okItem z i) : SeqAt.shaped (dItem i) = true := by
  cases i with
  | inl s =>
    show (PyData.strOk s && decide (0 ≤ 64)) = true
    rw [h.2]
    rfl
  | inr r =>
    show ((PyData.strOk r && true) && decide (max 0 0 + 1 ≤ 64)) = true
    rw [show PyData.strOk r = true from h]
    rfl
theorem pr_setLast {α β : Type} {G : α → β → Prop} {v : α} {y : β} (hv : G v y) : ∀ {xs : List α} {ys : List β}, Paired G xs ys → xs ≠ [] → Paired G (xs.set (xs.length - 1) v) (ys.dropLast ++ [y])
  | _, _, .nil, n => absurd rfl n
  | [a], _, .cons r t, _ => by
    cases t
    exact .cons hv .nil
  | a :: b :: xs, _, .cons r t, _ => by
    cases t with
    | cons r2 t2 =>
      have := pr_setLast hv (.cons r2 t2) (by simp)
      exact .cons r this
theorem joinStep_inl {acc : List Item} {s t : Str} (e : acc.getLast? = some (.inl t)) : joinStep acc (.inl s) = acc.dropLast ++ [.inl (t ++ s)] := by
  unfold joinStep
  rw [e]
theorem joinStep_r {acc : List Item} {s r : Str} (e : acc.getLast? = some (.inr r)) : joinStep acc (.inl s) = acc ++ [.inl s] := by
  unfold joinStep
  rw [e]
theorem joinStep_n {acc : List Item} {s : Str} (e : acc.getLast? = none) : joinStep acc (.inl s) = acc ++ [.inl s] := by
  unfold joinStep
  rw [e]
abbrev sp_joined : Sp := SpF (fun row : List Item => [tyRow row]) (fun row => tyRow (joinR row)) (fun row => row.length ≤ 100 ∧ ∀ i ∈ row, okItem 100 i)
theorem fm_filter {α β : Type} (p : α → Bool) (f : α → β) : ∀ L : List α, (L.filterMap fun a => if p a = true then some (f a) else none) = (L.filter p).map f
  | [] => rfl
  | a :: r => by
    rw [List.filterMap_cons, List.filter_cons]
    cases h : p a with
    | true => simp [fm_filter p f r]
    | false => simp [fm_filter p f r]
theorem isi_raw {σ : Sl} {H : Hp} {v : V} {m : String} {Q : VK} (h : rIsi K [v, .ty m] H Q) : tCons (tC (.ty m)) tNil σ H (fun xs H2 => rIsi K (v :: xs) H2 Q) := h
def JoinI (v0 : V) (l : Addr) (row : List Item) (i : Nat) (s : Sl) (D1 H1 : Hp) : Prop := ∃ x2 acc, s = [some v0, some (.ref l), x2] ∧ Loc l (.lst acc) D1 H1 ∧ TysAt (((row.take i).foldl joinStep []).map tyItem) acc D1
theorem cal_joined (F : Fc K mg) : Cal P w K mg base 1 "joined" sp_joined := mk_joined F (fun _ _ _ _ h => SpF.len (n := 1) (fun _ => rfl) h) fun f cdv A outer s H vs Q E hr h => by
  have nd := sc_joined.nd
  obtain ⟨row, D, ⟨hz, ho⟩, k, tv, q⟩ := h
  refine ⟨_, (pss_cons (ps_set (i := 1) nd rfl (.inl rfl) (pe_lst pa_nil))
    (pss_cons (ps_for PassesOwn.never rfl (k_pi_tup (pv 0)) (pg_name (i := 2) nd rfl (.inl rfl)) (pss_one (ps_if (PW.pt (pw_and (pt_val (pe_callB k_isi (by rfl) F.f_isinstance bt_isinstance (pa_cons (pv 2) (pa_cons (pe_bltn (v := .ty "str") (by rfl) F.f_str bt_str rfl) pa_nil)))) (pw_and (pt_cmpR (k_neD hr.units) (pv 1) (pe_lst pa_nil) (nomark _)) (pw_and1 (pt_val (pe_callB k_isi (by rfl) F.f_isinstance bt_isinstance (pa_cons (pe_ix k_ix_list (pv 1) (pe_un un_neg pe_int) (fun _ _ => rfl)) (pa_cons (pe_bltn (v := .ty "str") (by rfl) F.f_str bt_str rfl) pa_nil)))))))) (pss_one (ps_asg (pe_op op_add_str (pe_ix k_ix_list (pv 1) (pe_un un_neg pe_int) (fun _ _ => rfl)) (pv 2)) (pg_sub (pv 1) (pe_un un_neg pe_int) set_list))) (pss_one (ps_expr (pe_bm PySem.F.plainAttrs_list PySem.F.slot_list_append PySem.F.type_list_append mt_append (pv 1) (pa_cons (pv 2) pa_nil)))))))
    (pss_one (ps_ret (pe_callTy k_tuple_of (by rfl) F.f_tuple bt_tuple (pa_cons (pe_lc (own := [("item", 2)]) rfl nd (k_pi_list (pv 1)) (blkOk_by (N := n_joined) (sc := defScope s_joined) (by decide +kernel)) (fun _ _ _ _ _ => (pg_name (i := 2) nd rfl (.inl rfl))) (fun _ _ _ _ _ => pts_one (pt_cmpR (k_neD hr.units) (pv 2) pe_str (nomark _))) (fun _ _ _ _ _ => (pv 2))) pa_nil)))))), ?_⟩
  obtain ⟨v0, rfl, h0⟩ := args1 tv
  have o20 : ∀ i ∈ row, okItem 100 i := ho
  have hz : row.length ≤ 100 := hz
  have ok_at : ∀ n, ∀ i ∈ (row.take n).foldl joinStep [], okItem 20000 i := fun n i hi => by
    have := join_ok (row := row.take n) (acc := []) (n := 100) (fun i hi => by cases hi) (fun i hi => o20 i (List.mem_of_mem_take hi)) (Nat.le_refl _) i hi
    refine this.mono ?_
    have : (row.take n).length ≤ 100 := by rw [List.length_take]; omega
    have := Nat.mul_le_mul_right 100 this
    omega
  have len_at : ∀ n, ((row.take n).foldl joinStep []).length ≤ 100 := fun n => by
    have := join_len (row := row.take n) (acc := [])
    rw [List.length_take] at this
    simp at this
    omega
  refine ⟨by decide, fun l hl => ?_⟩
  have x0 : Ev (tVar 0) (start n_joined [v0]) D (tyRow row) := ev_var rfl h0
  have k1 := (Grow.refl k).mut hl (k.dom hl) (nf_lst (l := []))
  refine st_for (xs := row) tyItem (JoinI v0 l row) ?_ (D := D) (evi_tup (ev_var rfl h0)).i k1 ?_ ?_ ?_
  · rintro i s D1 H1 D2 H2 ⟨x2, acc, es, c, ta⟩ g
    exact ⟨x2, acc, es, c.grow (x := .lst acc) True.intro g, TysAt.up g.d.q ta⟩
  · intro D1 H1 g
    exact ⟨none, [], rfl, (Loc.new k hl).grow (x := .lst []) True.intro g, .nil⟩
  · intro B kb i a ha s1 D1 H1 x kD1 gH1 ⟨x2, acc, es, c, ta⟩ tx
    subst es
    have kH1 := gH1.dh
    have stp : (row.take (i + 1)).foldl joinStep [] = joinStep ((row.take i).foldl joinStep []) a := by rw [take_one ha, List.foldl_append]; rfl
    have lacc : acc.length ≤ 100 := by rw [pr_len ta, List.length_map]; exact len_at i
    generalize hX : (row.take i).foldl joinStep [] = X at ta stp
    have okX : ∀ i ∈ X, okItem 20000 i := hX ▸ ok_at i
    show tAnd _ _ [some v0, some (.ref l), some x] H1 _
    -- what is put behind
    have app : ∀ {E0 D2 H2}, Grow D1 H1 D2 H2 → joinStep X a = X ++ [a] → (tDrop (tBM K "list" rAppend (tVar 1) (tCons (tVar 2) tNil))) (LoE E0 (StN D H B (JoinI v0 l row (i + 1)))) [some v0, some (.ref l), some x] H2 := fun {E0 D2 H2} g2 ej => by
      refine ev_append (i := 1) rfl (c.grow (x := .lst acc) True.intro g2) (ev_var (i := 2) rfl ((tyItem a).up g2.d.q tx)) g2.dh (by omega) fun v D3 H3 g3 tv c3 => ?_
      refine ⟨D3, (kD1.trans g2.d).trans g3.d, c3.set (gH1.trans (g2.trans g3)) hl nf_lst, some x, acc ++ [v], rfl, c3.put, ?_⟩
      rw [stp, ej, List.map_append]
      exact pr_app (TysAt.up (g2.d.trans g3.d).q ta) (.cons tv .nil)
    cases a with
    | inr r =>
      refine (eb_and (b := false) (eb_B (b := false) (ev_isi (ev_var (i := 2) rfl tx) is_inr (by decide +kernel))) fun h => by cases h).use kH1 fun D2 H2 g2 => iteF (app g2 ?_)
      unfold joinStep
      split
      · rename_i h _
        cases h
      · rfl
    | inl st =>
      refine (eb_B (b := true) (ev_isi (ev_var (i := 2) rfl tx) is_inl (by decide +kernel))).use kH1 fun D2 H2 g2 => iteT ?_
      have c2 := c.grow (x := .lst acc) True.intro g2
      refine ne_nil (i := 1) dp_item rfl c2 g2.dh (TysAt.up g2.d.q ta) (shaped_items okX) fun D3 H3 g3 => ?_
      have c3 := c2.grow (x := .lst acc) True.intro g3
      have t3 := TysAt.up (g2.d.trans g3.d).q ta
      cases hL : X.getLast? with
      | none =>
        have : X = [] := List.getLast?_eq_none_iff.mp hL
        rw [this]
        refine iteF (iteF ?_)
        exact app (g2.trans g3) (joinStep_n hL)
      | some la =>
        have nX : X ≠ [] := fun z => by
          rw [z] at hL
          cases hL
        have eX : (!X.isEmpty) = true := by
          cases X with
          | nil => exact absurd rfl nX
          | cons _ _ => rfl
        rw [eX]
        refine iteT ?_
        obtain ⟨v, hv, tv⟩ := last_at t3 hL
        cases la with
        | inr r =>
          refine ⟨.ref l, rfl, 1, rfl, l, acc, -1, v, rfl, rfl, SqL.of c3.h, hv, ?_⟩
          refine isi_raw (K := K) ?_
          refine (rc_isi (b := false) is_inr (by decide +kernel)) [v, .ty "str"] D3 H3 g3.dh (.cons tv (.cons rfl .nil)) _ fun v' D4 H4 g4 tv' => ⟨false, tv', iteF (app ((g2.trans g3).trans g4) (joinStep_r hL))⟩
        | inl t =>
          refine ⟨.ref l, rfl, 1, rfl, l, acc, -1, v, rfl, rfl, SqL.of c3.h, hv, ?_⟩
          refine isi_raw (K := K) ?_
          refine (rc_isi (b := true) is_inl (by decide +kernel)) [v, .ty "str"] D3 H3 g3.dh (.cons tv (.cons rfl .nil)) _ fun v' D4 H4 g4 tv' => ⟨true, tv', iteT ?_⟩
          have c4 := c3.grow (x := .lst acc) True.intro g4
          have ev : v = .str t := tv
          have ex : x = .str st := tx
          subst ev ex
          have nacc : acc ≠ [] := fun z => by
            rw [z] at hv
            cases hv
          have lpos := List.length_pos_iff.mpr nacc
          have b1 := (okX _ (List.mem_of_getLast? hL)).1
          have b2 := (o20 _ (List.mem_of_getElem? ha)).1
          refine ⟨.ref l, rfl, 1, rfl, l, acc, -1, .str t, rfl, rfl, SqL.of c4.h, hv, .str st, rfl, t, st, rfl, rfl, Nat.le_trans (m := 100000) (by omega) (by decide), ?_⟩
          refine ⟨.ref l, rfl, 1, rfl, l, acc, -1, acc.length - 1, rfl, rfl, c4.h, ?_, ?_⟩
          · unfold ixN
            rw [if_neg (by decide), if_pos (by omega)]
            congr 1
            omega
          · refine ⟨D4, ((kD1.trans g2.d).trans g3.d).trans g4.d, c4.set (gH1.trans ((g2.trans g3).trans g4)) hl nf_lst, _, _, rfl, c4.put, ?_⟩
            rw [stp, joinStep_inl hL, List.map_append, List.map_dropLast]
            exact pr_setLast (by exact rfl) (TysAt.up g4.d.q t3) nacc
  · intro s1 D1 H1 kD1 gH1 ⟨x2, acc, es, c1, ta⟩
    subst es
    rw [List.take_length] at ta
    obtain ⟨k2, k3⟩ := c1.own (x := .lst acc) gH1 hl (.inl True.intro)
    have tl : (tyL ((row.foldl joinStep []).map tyItem)).p (.ref l) (upd D1 l (.lst acc)) := ⟨l, acc, rfl, upd_same, TysAt.up k3.q ta⟩
    have ok1 := ok_at row.length
    have len1 := len_at row.length
    rw [List.take_length] at ok1 len1
    have y0 : Ev (tVar 1) [some v0, some (.ref l), x2] (upd D1 l (.lst acc)) (tyL ((row.foldl joinStep []).map tyItem)) := ev_var rfl tl
    have e1 : Ev (tCB (fun xs H Q => ∃ p ys, xs = [V.ref p] ∧ ((SqL K H p ys ∧ ∀ l, H l = none → Q (.ref l) (upd H l (.tup ys))) ∨ (SqT K H p ys ∧ Q (.ref p) H))) (tCons (tLc (iList K (tVar 1)) (gName 2) (tTest (tOp (rNeD K) (tVar 2) (tC (.str "")))) (tVar 2) [2]) tNil)) [some v0, some (.ref l), x2] (upd D1 l (.lst acc)) (tyRow (joinR row)) := by
      refine ev_cb (ea_cons (t := tyL ((joinR row).map tyItem)) (ev_is ?_ (ev_lc (out := fun it => if (!PyData.eqv (dItem it) (.str Str.empty)) = true then some (tyItem it) else none) tyItem (evi_list y0).i (Nat.le_trans len1 (by decide)) fun it hit D2 k2 x hx => ?_)) ea_nil) rc_tupL
      · congr 1
        exact fm_filter _ _ _
      · refine lcel_if (b := !PyData.eqv (dItem it) (.str Str.empty)) rfl (eb_test (ev_op (ev_var (i := 2) rfl hx) ev_c (rv_neD (dp_item it) (dp_str) (shaped_item (ok1 it hit)) (by decide +kernel)))) (fun h => ⟨tyItem it, by rw [if_pos h], ev_var (i := 2) rfl hx⟩) fun h => by rw [if_neg (by rw [h]; decide)]
    exact e1.use k2.dh fun v D2 H2 g2 tv => q v D2 H2 (k2.trans g2) tv
end
end K02
set_option Elab.async false
set_option linter.all false
set_option maxRecDepth 100000
set_option maxHeartbeats 4000000
namespace K02
open PySem PySem.Spec PyProof.Rows L2
/-- signs alone -/
def Sg (s : Str) : Prop := ∀ c ∈ s.cps.toList, c ∈ ("abcdefghijklmnopqrstuvwxyz0123456789" : Str).cps.toList
def Sm (s : Str) : Prop := ∀ c ∈ s.cps.toList, c ∈ ("abcdefghijklmnopqrstuvwxyz" : Str).cps.toList
theorem signs_lt : ∀ c ∈ ("abcdefghijklmnopqrstuvwxyz0123456789" : Str).cps.toList, c < 0x110000 := by decide +kernel
theorem Sg.ok {s : Str} (h : Sg s) : PyData.strOk s = true := by
  unfold PyData.strOk
  rw [← Array.all_toList]
  exact List.all_eq_true.mpr fun c hc => decide_eq_true (signs_lt c (h c hc))
/-- an item of signs -/
def sgItem : Item → Prop
  | .inl s => s.length ≤ 100 ∧ Sg s
  | .inr r => Sg r
theorem sgItem.ok {i : Item} (h : sgItem i) : okItem 100 i := by
  cases i with
  | inl s => exact ⟨h.1, Sg.ok h.2⟩
  | inr r => exact Sg.ok h
section
variable {P : Program} {w : World} {K : PySem.W.Frag} {mg : Str → Option Value} {base : Heap}
theorem strs_in {regs : List Str} {r : Str} (h : r ∈ regs) : inV (.str r) (regs.map V.str) = true := by
  unfold inV
  exact List.any_eq_true.mpr ⟨.str r, List.mem_map.mpr ⟨r, h, rfl⟩, by
    show decide _ = true
    simp⟩
theorem strs_flat (regs : List Str) : (regs.map V.str).all flatV = true := by
  induction regs with
  | nil => rfl
  | cons a r ih => rw [List.map_cons, List.all_cons, ih]; rfl

abbrev sp_is_word : Sp := SpF (fun z : Str => [tyS z]) (fun _ => tyB true) (fun z => 1 ≤ z.length ∧ z.length ≤ 8 ∧ Sm z)
theorem cal_is_word (F : Fc K mg) : Cal P w K mg base 1 "is_word" sp_is_word := mk_is_word F (fun _ _ _ _ h => SpF.len (n := 1) (fun _ => rfl) h) fun f cdv A outer s H vs Q E hr h => by
  have nd := sc_is_word.nd
  obtain ⟨z, D, ⟨hz1, hz8, hc⟩, k, tv, q⟩ := h
  refine ⟨_, (pss_one (ps_ret (pe_and (pe_callB k_isi (by rfl) F.f_isinstance bt_isinstance (pa_cons (pv 0) (pa_cons (pe_bltn (v := .ty "str") (by rfl) F.f_str bt_str rfl) pa_nil))) (pe_and (pe_chain op_le op_le pe_int (pe_callB call_len_str (by rfl) F.f_len bt_len (pa_cons (pv 0) pa_nil)) pe_int) (pe_one (pe_callB (k_all rfl) (by rfl) F.f_all bt_all (pa_cons (pe_lc (own := [("sign", 1)]) rfl nd (pi_str (pv 0)) (blkOk_by (N := n_is_word) (sc := defScope s_is_word) (by decide +kernel)) (fun _ _ _ _ _ => (pg_name (i := 1) nd rfl (.inl rfl))) (fun _ _ _ _ _ => pts_nil) (fun _ _ _ _ _ => (pe_cmpR op_in_sign (pv 1) (C8.pe_gc (by rfl) F.vs_SMALL) rfl))) pa_nil))))))), ?_⟩
  obtain ⟨v0, rfl, h0⟩ := args1 tv
  have x0 : Ev (tVar 0) (start n_is_word [v0]) D (tyS z) := ev_var rfl h0
  have all : (z.cps.toList.all fun c => decide (c ∈ ("abcdefghijklmnopqrstuvwxyz" : Str).cps.toList)) = true := List.all_eq_true.mpr fun c hm => decide_eq_true (hc c hm)
  have lz : z.cps.toList.length ≤ 100000 := by
    have : z.cps.toList.length = z.length := by simp [Str.length]
    omega
  refine ret_ev (t := tyB true) (ev_is (t := tyB (true && ((true && true) && true))) rfl (ev_andV (ev_isi x0 is_str (b := true) (by decide +kernel)) fun _ => ev_andV ?_ fun _ =>
    ev_is (by rw [all]) (ev_cb (ea_cons (ev_lcm (fun c => tyS (sign c)) _ (evi_str x0).i lz fun c _ D1 k1 x hx => lcel rfl (ev_op (ev_var (i := 1) rfl hx) ev_c rv_inSign)) ea_nil) rc_allF))) k q
  exact ev_chain ev_c (ev_cb (ea_cons x0 ea_nil) (rc_lenS (by omega))) (fun _ => ev_c) (rv_le (by simp; omega)) fun _ => rv_le (by simp; omega)

/-! ### rows of a step -/
abbrev tyRows (regs : List Str) (g : Str → List Item) : Ty := tyD (regs.map fun r => (Sum.inr r, tyRow (g r)))
def RowOk (regs : List Str) (row : List Item) : Prop := row.length ≤ 100 ∧ ∀ i ∈ row, sgItem i ∧ ∀ r, i = .inr r → r ∈ regs
abbrev tyNames (regs : List Str) : Ty := tyL (regs.map tyS)
theorem names_map (regs : List Str) : regs.map tyS = (regs.map V.str).map tyV := by rw [List.map_map]; rfl
theorem rv_nmNotIn {regs : List Str} {r : Str} (h : r ∈ regs) : RV (rIn K true) (tyS r) (tyNames regs) (tyB false) := by
  have := rv_inL (K := K) (neg := true) (x := .str r) rfl (strs_flat regs)
  rw [← names_map] at this
  refine rv_to ?_ this
  show tyB (!inV _ _) = _
  rw [strs_in h]
  rfl
theorem rv_nmIn {regs : List Str} {r : Str} (h : r ∈ regs) : RV (rIn K false) (tyS r) (tyNames regs) (tyB true) := by
  have := rv_inL (K := K) (neg := false) (x := .str r) rfl (strs_flat regs)
  rw [← names_map] at this
  refine rv_to ?_ this
  show tyB (inV _ _) = _
  rw [strs_in h]
abbrev sp_is_row : Sp := SpF (fun x : List Item × List Str => [tyRow x.1, tyNames x.2]) (fun _ => tyB true) (fun x => RowOk x.2 x.1)
def SlotI (a : List (Option V)) (i : Nat) (s : Sl) (D1 H1 : Hp) : Prop := ∃ x, s = a ++ [x]
theorem cal_is_row (F : Fc K mg) : Cal P w K mg base 2 "is_row" sp_is_row := mk_is_row F (fun _ _ _ _ h => SpF.len (n := 2) (fun _ => rfl) h) fun f cdv A outer s H vs Q E hr h => by
  have nd := sc_is_row.nd
  have c_is_signs := cal_is_signs (P := P) (w := w) (base := base) F
  obtain ⟨⟨row, regs⟩, D, ⟨hz, ho⟩, k, tv, q⟩ := h
  refine ⟨_, (pss_cons (ps_if (pt_not (pt_val (pe_callB k_isi (by rfl) F.f_isinstance bt_isinstance (pa_cons (pv 0) (pa_cons (pe_bltn (v := .ty "tuple") (by rfl) F.f_tuple bt_tuple rfl) pa_nil))))) (pss_one (ps_ret pe_bl)) pss_nil)
    (pss_cons (ps_for PassesOwn.never rfl (k_pi_tup (pv 0)) (pg_name (i := 2) nd rfl (.inl rfl)) (pss_one (ps_if (pt_val (pe_callB k_isi (by rfl) F.f_isinstance bt_isinstance (pa_cons (pv 2) (pa_cons (pe_bltn (v := .ty "tuple") (by rfl) F.f_tuple bt_tuple rfl) pa_nil)))) (pss_one (ps_if (PW.pt (pw_or (pt_cmpR op_ne (pe_callB k_len_seq (by rfl) F.f_len bt_len (pa_cons (pv 2) pa_nil)) pe_int (nomark _)) (pw_or (pt_not (pt_val (pe_callB k_isi (by rfl) F.f_isinstance bt_isinstance (pa_cons (pe_ix k_ix_tup (pv 2) pe_int (fun _ _ => rfl)) (pa_cons (pe_bltn (v := .ty "str") (by rfl) F.f_str bt_str rfl) pa_nil))))) (pw_or1 (pt_cmpR k_notIn_seq (pe_ix k_ix_tup (pv 2) pe_int (fun _ _ => rfl)) (pv 1) rfl))))) (pss_one (ps_ret pe_bl)) pss_nil)) (pss_one (ps_if (pt_not (pt_val (pe_cal c_is_signs hr (by decide) (by rfl) (pa_cons (pv 2) pa_nil)))) (pss_one (ps_ret pe_bl)) pss_nil)))))
    (pss_one (ps_ret pe_bl)))), ?_⟩
  obtain ⟨v0, v1, rfl, h0, h1⟩ := args2 tv
  have x0 : Ev (tVar 0) (start n_is_row [v0, v1]) D (tyRow row) := ev_var rfl h0
  refine sq_ifN (eb_not (b := true) (eb_B (b := true) (ev_isi x0 is_tup (by decide +kernel)))) k fun D1 H1 g1 => ?_
  refine st_for (xs := row) (D := D1) tyItem (SlotI [some v0, some v1]) (fun z _ => z) (evi_tup (x0.up g1.d)).i g1 (fun _ _ _ => ⟨_, rfl⟩) ?_ ?_
  · intro B kb i a ha s1 D2 H2 x kD2 gH2 ⟨x2, es⟩ tx
    subst es
    obtain ⟨h5, h6⟩ := ho a (List.mem_of_getElem? ha)
    cases a with
    | inr r =>
      refine st_ifT (eb_B (b := true) (ev_isi (σ := [some v0, some v1, some x]) (ev_var (i := 2) rfl tx) is_inr (by decide +kernel))) gH2.dh fun D3 H3 g3 => ?_
      have x2 : Ev (tVar 2) [some v0, some v1, some x] D3 (tyT [tyS r]) := ev_var rfl ((tyItem (.inr r)).up g3.d.q tx)
      refine st_ifF (eb_or (a := false) (b := false) (eb_test (ev_op (ev_cb (ea_cons x2 ea_nil) rc_lenT) ev_c (rv_neI rfl))) fun _ => eb_or (a := false) (b := false) (eb_not (eb_B (b := true) (ev_isi (ev_op x2 ev_c (rv_ixT rfl)) is_str (by decide +kernel)))) fun _ =>
        eb_test (ev_op (ev_op x2 ev_c (rv_ixT rfl)) (ev_var (i := 1) rfl ((tyNames regs).up (g1.d.trans (kb.trans (kD2.trans g3.d))).q h1)) (rv_nmNotIn (h6 r rfl)))) g3.dh fun D4 H4 g4 => ?_
      exact ⟨D4, kD2.trans (g3.d.trans g4.d), gH2.trans (g3.trans g4), _, rfl⟩
    | inl st =>
      refine st_ifF (eb_B (b := false) (ev_isi (σ := [some v0, some v1, some x]) (ev_var (i := 2) rfl tx) is_inl (by decide +kernel))) gH2.dh fun D3 H3 g3 => ?_
      refine st_ifF (eb_not (b := true) (eb_B (b := true) (ev_call st ⟨Nat.le_trans h5.1 (by decide), h5.2⟩ (ea_cons (ev_var (i := 2) rfl ((tyItem (.inl st)).up g3.d.q tx)) ea_nil)))) g3.dh fun D4 H4 g4 => ?_
      exact ⟨D4, kD2.trans (g3.d.trans g4.d), gH2.trans (g3.trans g4), _, rfl⟩
  · intro s1 D2 H2 kD2 gH2 _
    exact q _ D2 H2 gH2 rfl

abbrev tyStep (regs : List Str) (x : Int × (Str → List Item)) : Ty := tyT [tyI x.1, tyRows regs x.2]
def StepOk (n : Int) (regs : List Str) (x : Int × (Str → List Item)) : Prop := (0 ≤ x.1 ∧ x.1 < n) ∧ ∀ r ∈ regs, RowOk regs (x.2 r)
abbrev sp_is_step : Sp := SpN (fun x : (Int × (Str → List Item)) × Int × List Str => [tyStep x.2.2 x.1, tyI x.2.1, tyNames x.2.2]) (fun _ => tyB true) (fun x => x.2.2.length ≤ 100 ∧ StepOk x.2.1 x.2.2 x.1)
theorem cal_is_step (F : Fc K mg) : Cal P w K mg base 3 "is_step" sp_is_step := mk_is_step F (fun _ _ _ _ h => SpN.len (n := 3) (fun _ => rfl) h) fun f cdv A outer s H vs Q E hr h => by
  have nd := sc_is_step.nd
  have c_is_whole := cal_is_whole (P := P) (w := w) (base := base) F
  have c_is_row := cal_is_row (P := P) (w := w) (base := base) F
  obtain ⟨⟨⟨goal, rows⟩, n, regs⟩, D, ⟨hz, hg, ho⟩, nl, k, tv, q⟩ := h
  dsimp only at hz hg ho tv q
  refine ⟨_, (pss_cons (ps_if (PW.pt (pw_or (pt_not (pt_val (pe_callB k_isi (by rfl) F.f_isinstance bt_isinstance (pa_cons (pv 0) (pa_cons (pe_bltn (v := .ty "tuple") (by rfl) F.f_tuple bt_tuple rfl) pa_nil))))) (pw_or (pt_cmpR op_ne (pe_callB k_len_seq (by rfl) F.f_len bt_len (pa_cons (pv 0) pa_nil)) pe_int (nomark _)) (pw_or (pt_not (pt_val (pe_cal c_is_whole hr (by decide) (by rfl) (pa_cons (pe_ix k_ix_tup (pv 0) pe_int (fun _ _ => rfl)) pa_nil)))) (pw_or1 (pt_not (pt_chain op_le op_lt pe_int (pe_ix k_ix_tup (pv 0) pe_int (fun _ _ => rfl)) (pv 1)))))))) (pss_one (ps_ret pe_bl)) pss_nil)
    (pss_cons (ps_if (PW.pt (pw_or (pt_not (pt_val (pe_callB k_isi (by rfl) F.f_isinstance bt_isinstance (pa_cons (pe_ix k_ix_tup (pv 0) pe_int (fun _ _ => rfl)) (pa_cons (pe_bltn (v := .ty "dict") (by rfl) F.f_dict bt_dict rfl) pa_nil))))) (pw_or1 (pt_not (pt_val (pe_callB (k_all rfl) (by rfl) F.f_all bt_all (pa_cons (pe_lock (pe_lc (own := [("name", 3)]) rfl nd (pi_keys (pe_ix k_ix_tup (pv 0) pe_int (fun _ _ => rfl))) (blkOk_by (N := n_is_step) (sc := defScope s_is_step) (by decide +kernel)) (fun _ _ _ _ _ => (pg_name (i := 3) nd rfl (.inl rfl))) (fun _ _ _ _ _ => pts_nil) (fun _ _ _ _ _ => (pe_cmpR k_in_seq (pv 3) (pv 2) rfl)))) pa_nil))))))) (pss_one (ps_ret pe_bl)) pss_nil)
    (pss_one (ps_ret (pe_callB (k_all rfl) (by rfl) F.f_all bt_all (pa_cons (pe_lock (pe_lc (own := [("row", 4)]) rfl nd (pi_values (pe_ix k_ix_tup (pv 0) pe_int (fun _ _ => rfl))) (blkOk_by (N := n_is_step) (sc := defScope s_is_step) (by decide +kernel)) (fun _ _ _ _ _ => (pg_name (i := 4) nd rfl (.inl rfl))) (fun _ _ _ _ _ => pts_nil) (fun _ _ _ _ _ => (pe_cal c_is_row hr (by decide) (by rfl) (pa_cons (pv 4) (pa_cons (pv 2) pa_nil)))))) pa_nil)))))), ?_⟩
  obtain ⟨v0, v1, v2, rfl, h0, h1, h2⟩ := args3 tv
  have p0 : ∀ {D}, Pu (tVar 0) (start n_is_step [v0, v1, v2]) D v0 := pu_var rfl
  have x0 : Ev (tVar 0) (start n_is_step [v0, v1, v2]) D (tyStep regs (goal, rows)) := p0.ev h0
  have xg : Ev (tOp (rIxT K) (tVar 0) (tC (.int 0))) (start n_is_step [v0, v1, v2]) D (tyI goal) := ev_op x0 ev_c (rv_ixT rfl)
  have xr : Ev (tOp (rIxT K) (tVar 0) (tC (.int 1))) (start n_is_step [v0, v1, v2]) D (tyRows regs rows) := ev_op x0 ev_c (rv_ixT rfl)
  obtain ⟨vr, pr, tr⟩ := pu_ixT (K := K) (i := 1) p0 h0 rfl
  refine sq_ifN (eb_or (a := false) (b := false) (eb_not (b := true) (eb_B (ev_isi x0 is_tup (by decide +kernel)))) fun _ => eb_or (a := false) (b := false) (eb_test (ev_op (ev_cb (ea_cons x0 ea_nil) rc_lenT) ev_c (rv_neI rfl))) fun _ =>
    eb_or (a := false) (b := false) (eb_not (b := true) (eb_B (ev_call goal True.intro (ea_cons xg ea_nil)))) fun _ => eb_not (b := true) (eb_test (ev_chain ev_c xg (fun _ => ev_var (i := 1) rfl h1) (rv_le (decide_eq_true hg.1)) fun _ => rv_lt (decide_eq_true hg.2)))) k fun D1 H1 g1 => ?_
  have nl1 := nl.up g1.d
  refine sq_ifN (eb_or (a := false) (b := false) (eb_not (b := true) (eb_B (ev_isi (xr.up g1.d) is_dK (by decide +kernel)))) fun _ => eb_not (b := true) (eb_B (ev_is (by rw [show regs.all (fun _ => true) = true from List.all_eq_true.mpr fun _ _ => rfl]) (ev_cb (ea_cons (t := tyL (regs.map fun r => tyB true)) ?_ ea_nil) rc_allF)))) g1.dh fun D2 H2 g2 => ?_
  · refine ev_lockK nl1.k (pr.up g1.d.q) ((tyRows regs rows).up g1.d.q tr) fun D2 d o kvs kq ed pd hd hv => ?_
    have := evi_keys pd hd hv
    rw [List.map_map] at this
    exact ev_lcm (fun r => tyS r) _ this.i (Nat.le_trans hz (by decide)) fun r hrm D3 k3 x hx => lcel rfl (ev_op (ev_var (i := 3) rfl hx) (ev_var (i := 2) rfl ((tyNames regs).up ((g1.d.q.trans kq).trans k3.q) h2)) (rv_nmIn hrm))
  · refine st_ret (ev_is (t := tyB (regs.all fun _ => true)) (by rw [show regs.all (fun _ => true) = true from List.all_eq_true.mpr fun _ _ => rfl]) (ev_cb (ea_cons (t := tyL (regs.map fun r => tyB true)) ?_ ea_nil) rc_allF)) g2.dh ?_
    rotate_left
    · exact fun v D3 H3 g3 tv => q v D3 H3 ((g1.trans g2).trans g3) tv
    refine ev_lockK (nl1.up g2.d).k (pr.up (g1.d.trans g2.d).q) ((tyRows regs rows).up (g1.d.trans g2.d).q tr) fun D3 d o kvs kq ed pd hd hv => ?_
    have := evi_vals pd hd hv
    rw [List.map_map] at this
    exact ev_lcm (fun r => tyRow (rows r)) _ this.i (Nat.le_trans hz (by decide)) fun r hrm D4 k4 x hx => lcel rfl (ev_call (rows r, regs) (ho r hrm) (ea_cons (ev_var (i := 4) rfl hx) (ea_cons (ev_var (i := 2) rfl ((tyNames regs).up (((g1.d.trans g2.d).q.trans kq).trans k4.q) h2)) ea_nil)))

abbrev sp_whole_rows : Sp := SpF (fun x : (Str → List Item) × List Str => [tyRows x.2 x.1, tyNames x.2]) (fun x => tyRows x.2 fun r => joinR (x.1 r)) (fun x => x.2.length ≤ 100 ∧ x.2.Nodup ∧ ∀ r ∈ x.2, RowOk x.2 (x.1 r))
theorem cal_whole_rows (F : Fc K mg) : Cal P w K mg base 2 "whole_rows" sp_whole_rows := mk_whole_rows F (fun _ _ _ _ h => SpF.len (n := 2) (fun _ => rfl) h) fun f cdv A outer s H vs Q E hr h => by
  have nd := sc_whole_rows.nd
  have hu := Nat.lt_of_le_of_lt (Nat.add_le_add_left (by decide : 1 ≤ 64) _) hr.units
  have c_joined := cal_joined (P := P) (w := w) (base := base) F
  obtain ⟨⟨rows, regs⟩, D, ⟨hz, hn, ho⟩, k, tv, q⟩ := h
  dsimp only at hz hn ho tv q
  refine ⟨_, (pss_one (ps_ret (pe_dc (own := [("name", 2)]) rfl nd (k_pi_list (pv 1)) (blkOk_by (N := n_whole_rows) (sc := defScope s_whole_rows) (by decide +kernel)) (fun _ _ _ _ _ => (pg_name (i := 2) nd rfl (.inl rfl))) (fun _ _ _ _ _ => pts_nil) (fun _ _ _ _ _ => (pv 2)) (fun _ _ _ _ _ => (pe_ifExp (pt_cmp (pc_din hu (pv 2) (pv 0))) (pe_cal c_joined hr (by decide) (by rfl) (pa_cons (pe_dget hu (pv 0) (pv 2) (fun _ _ => rfl)) pa_nil)) (pe_tup (pa_cons (pe_tup (pa_cons (pv 2) pa_nil)) pa_nil))))))), ?_⟩
  obtain ⟨v0, v1, rfl, h0, h1⟩ := args2 tv
  have x1 : Ev (tVar 1) (start n_whole_rows [v0, v1]) D (tyNames regs) := ev_var rfl h1
  refine st_ret (t := tyRows regs fun r => joinR (rows r)) (ev_dc (fun r => tyS r) (fun r => .inr r) (fun r => tyRow (joinR (rows r))) (evi_list x1).i (by
    rw [show regs.map (fun r => (Sum.inr r : Key)) = regs.map Sum.inr from rfl]
    exact List.Pairwise.map _ (fun a b h e => h (Sum.inr.inj e)) hn) (Nat.le_trans hz (by decide)) fun r hrm D1 k1 x hx => ?_) k q
  have xr : Ev (tVar 0) (([some v0, some v1, none] : Sl).set 2 (some x)) D1 (tyRows regs rows) := ev_var rfl ((tyRows regs rows).up k1.q h0)
  have xn : Ev (tVar 2) (([some v0, some v1, none] : Sl).set 2 (some x)) D1 (tyS r) := ev_var rfl hx
  exact dcel rfl xn (ev_if (b := true) (eb_B (ev_din (k := .inr r) xr xn (.inl ⟨rfl, _, has_held hrm⟩))) (fun _ => ev_call (rows r) ⟨(ho r hrm).1, fun i hi => ((ho r hrm).2 i hi).1.ok⟩ (ea_cons (ev_dget (k := .inr r) xr xn (has_held hrm)) ea_nil)) fun h => by cases h)
end
end K02
set_option Elab.async false
set_option linter.all false
set_option maxRecDepth 100000
set_option maxHeartbeats 4000000
/-! Rules: a walk over a list or a tuple, list.count of texts, isinstance of an own class, of one of two types. -/
namespace K02
open PySem PySem.Spec PyProof.Rows L2
section
variable {X : Cx} {tg : Expr}
def iSeq (K : PySem.W.Frag) (tl : TE) : TI := fun σ H R => tl σ H fun x H1 => ∃ a, x = .ref a ∧ (((∃ xs, SqL K H1 a xs) ∧ R (Itl K a) H1) ∨ ((∃ xs, SqT K H1 a xs) ∧ R (Itt K a) H1))
theorem pi_seq {l : Expr} {tl : TE} (hl : PE X l tl) : PI X tg l (iSeq X.K tl) := by
  refine ⟨fun pins s σ H R I h => ?_⟩
  refine thn (hl.run pins s σ H _ I h) fun v s1 ⟨x, H1, I1, r1, a, e, q1⟩ => ?_
  subst e
  cases r1
  have new : ∀ b ∈ [s1.heap.objs.size], FpOk X pins H1 b := fun b hb => by
    have e : b = s1.heap.objs.size := by simpa using hb
    subst e
    exact I1.fpOk (Nat.le_refl _) (I1.hok.fresh (Nat.le_refl _))
  rcases q1 with ⟨⟨xs, hq⟩, q⟩ | ⟨⟨xs, hq⟩, q⟩
  · obtain ⟨its, rv, p, hz⟩ := I1.list hq
    refine wpAny_pyIter_list p.isList ?_
    exact ⟨s1.heap.objs.size, [s1.heap.objs.size], _, _, H1, rfl, I1.kept (t' := s1.toks) fun b o e => Heap.get?_push_of_some _ e, turn_list a _, ⟨_, Heap.get?_push_size _ rfl, rfl, rfl⟩, new, q⟩
  · obtain ⟨its, rv, p, hz⟩ := I1.tuple hq
    refine wpAny_pyIter_tuple (show s1.heap.IsTuple a its.toArray from p) ?_
    exact ⟨s1.heap.objs.size, [s1.heap.objs.size], _, _, H1, rfl, I1.kept (t' := s1.toks) fun b o e => Heap.get?_push_of_some _ e, turn_tuple a _, ⟨_, Heap.get?_push_size _ rfl, rfl, rfl⟩, new, q⟩
theorem k_pi_seq {K : PySem.W.Frag} {l : Expr} {tl : TE} (hl : PE X l tl) (h : X.K = K := by rfl) : PI X tg l (iSeq K tl) := h ▸ pi_seq hl
end
/-- a list or a tuple of things of these types -/
def tySeq (ts : List Ty) : Ty := ⟨fun v H => (tyL ts).p v H ∨ (tyT ts).p v H, fun k h => h.imp ((tyL ts).up k) ((tyT ts).up k)⟩
section
variable {K : PySem.W.Frag} {σ : Sl} {D D' H : Hp} {te : TE} {ts : List Ty} {t : Ty}
theorem evi_seq (e : Ev te σ D (tySeq ts)) : EvI0 (iSeq K te) σ D ts := fun D1 H k h R q => e D1 H k h _ fun x D2 H2 g2 tx => by
  rcases tx with tx | tx
  · obtain ⟨a, vs, rfl, ha, hv⟩ := tx
    have at' : ∀ {D3 H3 : Hp}, Kp D2 D3 → Kp D3 H3 → SqL K H3 a vs := fun k3 h3 => SqL.of (h3.q.fx (u := .lst vs) True.intro (k3.q.fx (u := .lst vs) True.intro ha))
    refine ⟨a, rfl, .inl ⟨⟨vs, at' (Kp.refl D2) g2.dh⟩, q _ D2 H2 g2 ⟨fun i H3 k3 hi => ?_, fun H3 k3 => ?_, fun i t D3 H3 y H4 k3 h3 e y4 => ?_⟩⟩⟩
    · have hi : i < vs.length := by rw [pr_len hv]; exact hi
      exact ⟨vs, vs[i], at' (Kp.refl D2) k3, by simp [hi]⟩
    · exact ⟨vs, at' (Kp.refl D2) k3, by rw [pr_len hv]; exact Nat.le_refl _⟩
    · obtain ⟨e1, e2⟩ := y4
      obtain ⟨v, h1, h2⟩ := pr_get (F := fun v (t : Ty) => t.p v D2) hv e
      have e3 := e2 vs (at' k3 h3)
      rw [e3] at h1
      cases h1
      exact ⟨e1, t.up k3.q h2⟩
  · obtain ⟨a, vs, rfl, ha, hv⟩ := tx
    have at' : ∀ {D3 H3 : Hp}, Kp D2 D3 → Kp D3 H3 → SqT K H3 a vs := fun k3 h3 => SqT.of (h3.q.fx (u := .tup vs) True.intro (k3.q.fx (u := .tup vs) True.intro ha))
    refine ⟨a, rfl, .inr ⟨⟨vs, at' (Kp.refl D2) g2.dh⟩, q _ D2 H2 g2 ⟨fun i H3 k3 hi => ?_, fun H3 k3 => ?_, fun i t D3 H3 y H4 k3 h3 e y4 => ?_⟩⟩⟩
    · have hi : i < vs.length := by rw [pr_len hv]; exact hi
      exact ⟨vs, vs[i], at' (Kp.refl D2) k3, by simp [hi]⟩
    · exact ⟨vs, at' (Kp.refl D2) k3, by rw [pr_len hv]; exact Nat.le_refl _⟩
    · obtain ⟨e1, e2⟩ := y4
      obtain ⟨v, h1, h2⟩ := pr_get (F := fun v (t : Ty) => t.p v D2) hv e
      have e3 := e2 vs (at' k3 h3)
      rw [e3] at h1
      cases h1
      exact ⟨e1, t.up k3.q h2⟩
end
section
variable {X : Cx}
/-- xs.count(y), texts -/
def rCntS (K : PySem.W.Frag) : V → List V → Hp → VK → Prop := fun x ys H Q => ∃ (a : Addr) (ns : List Str) (y : Str), x = V.ref a ∧ ys = [V.str y] ∧ SqL K H a (ns.map V.str) ∧ Q (.int (ns.count y : Nat)) H
theorem plain_strs (ns : List Str) : PyData.plainAll (ns.map PyData.str) = true := by
  induction ns with
  | nil => rfl
  | cons a r ih =>
    rw [List.map_cons]
    show (true && _) = true
    rw [ih]
    rfl
theorem mt_countS (hu : X.A.units + 64 < cLine) : MtR X "list.count" (rCntS X.K) := by
  intro pins s σ H x ys v us Q I rx rs h
  obtain ⟨a, ns, y, rfl, rfl, hq, q⟩ := h
  cases rx
  obtain ⟨u, rfl, ru⟩ := rs.one
  obtain ⟨its, rv, pl, hz⟩ := I.list hq
  have hd : DpAll X.K H (ns.map V.str) (ns.map PyData.str) := by
    clear rv hq q hz
    induction ns with
    | nil => exact .nil
    | cons a r ih => exact .cons (.str a) ih
  obtain ⟨as, rd⟩ := Dp.readsAll I _ _ _ hd rv
  obtain ⟨bs, rb⟩ := Dp.reads I (.str y) _ _ (.str y) ru
  have ec : ((ns.map PyData.str).countP fun z => PyData.eqv z (.str y)) = ns.count y := by
    rw [List.countP_map]
    show _ = List.countP _ ns
    congr 1
  refine SeqAt.count_list_data (xs := ns.map PyData.str) (d := .str y) pl.isList (by simpa using rd) rb (plain_strs ns) rfl (by show _ + 1 + min _ 0 < _; omega) ?_
  rw [ec]
  exact ⟨.int (ns.count y : Nat), H, I.tok _, ⟨_, rfl⟩, q⟩
theorem k_countS {K : PySem.W.Frag} (hu : X.A.units + 64 < cLine) (h : X.K = K := by rfl) : MtR X "list.count" (rCntS K) := h ▸ mt_countS hu
theorem k_bm {K : PySem.W.Frag} {o e : Expr} {es : List Expr} {to : TE} {t : TA} {name : Str} {apos cpos : Pos} {T id : String} {r : V → List V → Hp → VK → Prop} (pa : PlainAttrs T) (slot : Slot T name id) (hty : typeOf (.builtin id) = pure (.type "method_descriptor")) (hm : MtR X id r) (ho : PE X o to) (ha : PA X (e :: es) t)
    (hK : X.K = K := by rfl) (hbase : attributeBase o name X.env (eval o X.env) = eval o X.env := by rfl)
    (hfew : ((backTo cpos (starEach (e :: es) X.env)).all (fun x => !x.1) && (backToKw cpos (keywordEach [] X.env)).all (fun x => x.1.isSome)
      && decide ((e :: es).length + ([] : List Keyword).length + (if ([] : List Keyword).isEmpty then 0 else 1) < 30)) = true := by rfl)
    (hline : (apos.endLine == cpos.line) = true := by rfl) (hs : starEach (e :: es) X.env = (false, eval e X.env) :: starEach es X.env := by rfl) (hplain : (backTo cpos (starEach es X.env)).any (·.1) = false := by rfl) :
    PE X (.Call (.Attribute o name apos) (e :: es) [] cpos) (tBM K T r to t) := hK ▸ pe_bm pa slot hty hm ho ha hbase hfew hline hs hplain
end
section
variable {K : PySem.W.Frag} {σ : Sl} {D D' H : Hp} {te ta : TE} {t : Ty} {C : Addr} {fts : List (Str × Ty)}
theorem ev_countS {ns : List Str} {y : Str} (e : Ev te σ D (tyL (ns.map tyS))) (e2 : Ev ta σ D (tyS y)) : Ev (tBM K "list" (rCntS K) te (tCons ta tNil)) σ D (tyI (ns.count y : Nat)) := fun D1 H k h Q q => e D1 H k h _ fun x D2 H2 g2 tx => by
  obtain ⟨a, vs, rfl, ha, hv⟩ := tx
  have e1 : vs = ns.map V.str := all_flat (by rw [List.map_map]; exact hv)
  subst e1
  refine ⟨.inl ⟨rfl, _, SqL.of (g2.dh.q.fx (u := .lst _) True.intro ha)⟩, e2 D2 H2 (k.trans g2.d) g2.dh _ fun z D3 H3 g3 tz => ?_⟩
  have tz : z = .str y := tz
  subst tz
  exact ⟨a, ns, y, rfl, rfl, SqL.of ((g2.dh.trans g3.h).q.fx (u := .lst _) True.intro ha), q _ D3 H3 (g2.trans g3) rfl⟩
theorem rc_isC : RC (fun xs H Q => ∃ a dx fs, xs = [V.ref a, V.ref C] ∧ H a = some (.ins C dx fs) ∧ Q (.bl true) H) [tyO C fts, tyV (.ref C)] (tyB true) := fun xs D H k h Q q => by
  obtain ⟨v0, v1, rfl, ⟨a, dx, fs, rfl, ha, _⟩, h1⟩ := args2 h
  have h1 : v1 = .ref C := h1
  subst h1
  exact ⟨a, dx, fs, rfl, k.q.fx (u := .ins C dx fs) True.intro ha, q _ D H (Grow.refl k) rfl⟩
/-- isinstance(x, (A, B)), the answer told by names -/
theorem rc_isiT {n m1 m2 : String} {b : Bool} (h : TyIs K t n) (e : PySem.W.kitAny K (.type n) [.type m1, .type m2] = some b) : RC (rIsiT K) [t, tyT [tyV (.ty m1), tyV (.ty m2)]] (tyB b) := fun xs D H k hx Q q => by
  obtain ⟨v0, v1, rfl, h0, a, vs, rfl, ha, hv⟩ := args2 hx
  obtain ⟨w0, w1, rfl, e0, e1⟩ := args2 hv
  have e0 : w0 = .ty m1 := e0
  have e1 : w1 = .ty m2 := e1
  subst e0 e1
  exact ⟨v0, a, _, _, _, b, rfl, k.q.fx (u := .tup _) True.intro ha, .cons (.ty m1) (.cons (.ty m2) .nil), h v0 D H k h0, e, q _ D H (Grow.refl k) rfl⟩
theorem rv_eqS {s1 s2 : Str} {b : Bool} (h : decide (s1 = s2) = b) : RV rEq (tyS s1) (tyS s2) (tyB b) := rv_to (by rw [← h]; simp) (rv_eq rfl)
end
end K02
set_option Elab.async false
set_option linter.all false
set_option maxRecDepth 100000
set_option maxHeartbeats 4000000
namespace K02
open PySem PySem.Spec PyProof.Rows L2
section
variable {P : Program} {w : World} {K : PySem.W.Frag} {mg : Str → Option Value} {base : Heap}
abbrev sp_has_twice : Sp := SpF (fun ns : List Str => [tyNames ns]) (fun ns => tyB (!decide ns.Nodup)) (fun ns => ns.length ≤ 1000)
theorem cal_has_twice (F : Fc K mg) : Cal P w K mg base 1 "has_twice" sp_has_twice := mk_has_twice F (fun _ _ _ _ h => SpF.len (n := 1) (fun _ => rfl) h) fun f cdv A outer s H vs Q E hr h => by
  have nd := sc_has_twice.nd
  obtain ⟨ns, D, hz, k, tv, q⟩ := h
  refine ⟨_, (pss_one (ps_ret (pe_cmpR op_ne (pe_callB call_lenSet (by rfl) F.f_len bt_len (pa_cons (pe_callTy (cr_setL rfl) (by rfl) F.f_set bt_set (pa_cons (pv 0) pa_nil)) pa_nil)) (pe_callB k_len_seq (by rfl) F.f_len bt_len (pa_cons (pv 0) pa_nil)) (nomark _)))), ?_⟩
  obtain ⟨v0, rfl, h0⟩ := args1 tv
  have x0 : Ev (tVar 0) (start n_has_twice [v0]) D (tyNames ns) := ev_var rfl h0
  have e : (!decide (((dd ns).length : Int) = ((ns.map tyS).length : Nat))) = !decide ns.Nodup := by
    rw [List.length_map]
    congr 1
    rw [decide_eq_decide]
    exact ⟨fun h => dd_len_eq.mp (by omega), fun h => by rw [dd_nodup h]⟩
  exact ret_ev (t := tyB (!decide ns.Nodup)) (ev_op (ev_lenSet (P := P) (w := w) hz x0) (ev_cb (ea_cons x0 ea_nil) rc_lenL) (rv_neI e)) k q

def txt (cs : List Nat) : Str := ⟨cs.toArray⟩
abbrev sp_are_letters : Sp := SpF (fun z : Str => [tyS z]) (fun _ => tyB true) (fun z => 1 ≤ z.length ∧ z.length ≤ 4 ∧ Sg z ∧ (signsOf z).Nodup)
theorem cal_are_letters (F : Fc K mg) : Cal P w K mg base 2 "are_letters" sp_are_letters := mk_are_letters F (fun _ _ _ _ h => SpF.len (n := 1) (fun _ => rfl) h) fun f cdv A outer s H vs Q E hr h => by
  have nd := sc_are_letters.nd
  have c_is_signs := cal_is_signs (P := P) (w := w) (base := base) F
  obtain ⟨z, D, ⟨hz1, hz4, hs, hn⟩, k, tv, q⟩ := h
  refine ⟨_, (pss_one (ps_ret (pe_and (pe_cal c_is_signs hr (by decide) (by rfl) (pa_cons (pv 0) pa_nil)) (pe_and (pe_chain op_le op_le pe_int (pe_callB call_len_str (by rfl) F.f_len bt_len (pa_cons (pv 0) pa_nil)) (C8.pe_gc (by rfl) F.vi_MOST_LETTERS)) (pe_one (pe_cmpR op_eq (pe_callB call_lenSet (by rfl) F.f_len bt_len (pa_cons (pe_callTy (cr_setStr rfl) (by rfl) F.f_set bt_set (pa_cons (pv 0) pa_nil)) pa_nil)) (pe_callB call_len_str (by rfl) F.f_len bt_len (pa_cons (pv 0) pa_nil)) (nomark _))))))), ?_⟩
  obtain ⟨v0, rfl, h0⟩ := args1 tv
  have x0 : Ev (tVar 0) (start n_are_letters [v0]) D (tyS z) := ev_var rfl h0
  have xl : Ev (tCB (fun xs H Q => ∃ z, xs = [.str z] ∧ z.length ≤ sizeLine ∧ Q (.int z.length) H) (tCons (tVar 0) tNil)) (start n_are_letters [v0]) D (tyI z.length) := ev_cb (ea_cons x0 ea_nil) (rc_lenS (by omega))
  have e : decide (((dd (signsOf z)).length : Int) = (z.length : Nat)) = true := by
    rw [dd_nodup hn]
    have : (signsOf z).length = z.length := by simp [signsOf, Str.length]
    rw [this]
    simp
  exact ret_ev (t := tyB true) (ev_is (t := tyB (true && ((true && true) && true))) rfl (ev_andV (ev_call z ⟨by omega, hs⟩ (ea_cons x0 ea_nil)) fun _ => ev_andV (ev_chain ev_c xl (fun _ => ev_c) (rv_le (by simp; omega)) fun _ => rv_le (by simp; omega)) fun _ =>
    ev_op (ev_lenSetStr (P := P) (w := w) (by omega) x0) xl (rv_eqI e))) k q

/-- the registers in the rows of live ones -/
def usesOf (g : Str → List Item) (live : List Str) : List Str := live.flatMap fun r => regsOf (g r)
abbrev sp_uses_of : Sp := SpF (fun x : List Str × (Str → List Item) × List Str => [tyRows x.1 x.2.1, tySeq (x.2.2.map tyS)]) (fun x => tyNames (usesOf x.2.1 x.2.2)) (fun x => (∀ r ∈ x.2.2, r ∈ x.1) ∧ (∀ r ∈ x.1, (x.2.1 r).length ≤ 100) ∧ (usesOf x.2.1 x.2.2).length ≤ 1000)
theorem flat_tys (g : Str → List Item) (live : List Str) : (live.flatMap fun r => (regsOf (g r)).map tyS) = (usesOf g live).map tyS := by
  unfold usesOf
  rw [List.map_flatMap]
theorem cal_uses_of (F : Fc K mg) : Cal P w K mg base 2 "uses_of" sp_uses_of := mk_uses_of F (fun _ _ _ _ h => SpF.len (n := 2) (fun _ => rfl) h) fun f cdv A outer s H vs Q E hr h => by
  have nd := sc_uses_of.nd
  have hu := Nat.lt_of_le_of_lt (Nat.add_le_add_left (by decide : 1 ≤ 64) _) hr.units
  have c_registers_in := cal_registers_in (P := P) (w := w) (base := base) F
  obtain ⟨⟨regs, g, live⟩, D, ⟨hm, hl, hz⟩, k, tv, q⟩ := h
  dsimp only at hm hl hz tv q
  refine ⟨_, (pss_one (ps_ret (pe_lc2 (own := [("one", 2), ("name", 3)]) (vs1 := [3]) rfl nd (k_pi_seq (pv 1)) (blkOk_by (N := n_uses_of) (sc := defScope s_uses_of) (by decide +kernel)) (by decide) (fun _ _ _ _ _ => (pg_name (i := 2) nd rfl (.inl rfl))) (fun _ _ _ _ _ => pts_nil) (fun _ _ _ _ _ => (k_pi_list (pe_cal c_registers_in hr (by decide) (by rfl) (pa_cons (pe_dget hu (pv 0) (pv 2) (fun _ _ => rfl)) pa_nil)))) (fun _ _ _ _ _ => (pg_name (i := 3) nd rfl (.inl rfl))) (fun _ _ _ _ _ => pts_nil) (fun _ _ _ _ _ => (pv 3))))), ?_⟩
  obtain ⟨v0, v1, rfl, h0, h1⟩ := args2 tv
  have x1 : Ev (tVar 1) (start n_uses_of [v0, v1]) D (tySeq (live.map tyS)) := ev_var rfl h1
  refine ret_ev (t := tyNames (usesOf g live)) (ev_is (by rw [flat_tys]) (ev_lc2 (τ := tyS) (ys := fun r => regsOf (g r)) (τ1 := fun _ => tyS) (out := fun _ => tyS) (evi_seq x1).i (Nat.le_trans hz (by decide)) (fun x => rfl) (fun x y => rfl) (fun r hr2 D1 k1 x hx => ?_) fun r hr2 D1 k1 x hx b hb y hy => ev_var (i := 3) rfl hy)) k q
  refine (evi_list (ev_call (g r) (hl r (hm r hr2)) (ea_cons (ev_dget (k := .inr r) (ev_var (i := 0) rfl ((tyRows regs g).up k1.q h0)) (ev_var (i := 2) rfl hx) (has_held (hm r hr2))) ea_nil))).i

abbrev sp_first_twice : Sp := SpF (fun ns : List Str => [tyNames ns]) (fun ns => ⟨fun v H => ∃ n, v = .str n ∧ 1 < ns.count n ∧ n ∈ ns, fun _ h => h⟩) (fun ns => ns.length ≤ 1000 ∧ ¬ ns.Nodup)
theorem at_head {α : Type} {x : α} {l : List α} : atI (x :: l) 0 = some x := by
  unfold atI ixN
  rw [if_pos (by decide), if_pos (by rw [List.length_cons]; omega)]
  rfl
theorem count_two {ns : List Str} (h : ¬ ns.Nodup) : ∃ n ∈ ns, 1 < ns.count n := by
  rcases Classical.em (∃ n ∈ ns, 1 < ns.count n) with c | c
  · exact c
  · exfalso
    refine h (List.nodup_iff_count.mpr fun a => ?_)
    rcases Classical.em (a ∈ ns) with m | m
    · have : ¬ 1 < ns.count a := fun z => c ⟨a, m, z⟩
      omega
    · rw [List.count_eq_zero_of_not_mem m]
      omega
theorem cal_first_twice (F : Fc K mg) : Cal P w K mg base 1 "first_twice" sp_first_twice := mk_first_twice F (fun _ _ _ _ h => SpF.len (n := 1) (fun _ => rfl) h) fun f cdv A outer s H vs Q E hr h => by
  have nd := sc_first_twice.nd
  obtain ⟨ns, D, ⟨hz, hn⟩, k, tv, q⟩ := h
  refine ⟨_, (pss_one (ps_ret (pe_ix k_ix_list (pe_lc (own := [("name", 1)]) rfl nd (k_pi_list (pe_callB (cr_srtL hr.units) (by rfl) F.f_sorted bt_sorted (pa_cons (pv 0) pa_nil))) (blkOk_by (N := n_first_twice) (sc := defScope s_first_twice) (by decide +kernel)) (fun _ _ _ _ _ => (pg_name (i := 1) nd rfl (.inl rfl))) (fun _ _ _ _ _ => pts_one (pt_cmpR op_gt (k_bm PySem.F.plainAttrs_list PySem.F.slot_list_count PySem.F.type_list_count (k_countS hr.units) (pv 0) (pa_cons (pv 1) pa_nil)) pe_int (nomark _))) (fun _ _ _ _ _ => (pv 1))) pe_int (fun _ _ => rfl)))), ?_⟩
  obtain ⟨v0, rfl, h0⟩ := args1 tv
  have x0 : Ev (tVar 0) (start n_first_twice [v0]) D (tyNames ns) := ev_var rfl h0
  have lz : (sortS ns).length ≤ 100000 := by rw [(perm_sortS ns).length_eq]; omega
  have fe : ∀ L : List Str, (L.filterMap fun a => if decide (1 < ns.count a) = true then some (tyS a) else none) = (L.filter fun a => decide (1 < ns.count a)).map tyS := fun L => fm_filter (fun a => decide (1 < ns.count a)) tyS L
  have ne : (sortS ns).filter (fun a => decide (1 < ns.count a)) ≠ [] := fun z => by
    obtain ⟨n, h1, h2⟩ := count_two hn
    have : n ∈ (sortS ns).filter (fun a => decide (1 < ns.count a)) := List.mem_filter.mpr ⟨(perm_sortS ns).mem_iff.mpr h1, decide_eq_true h2⟩
    rw [z] at this
    cases this
  obtain ⟨n, r, e⟩ := List.exists_cons_of_ne_nil ne
  have hmem : n ∈ (sortS ns).filter (fun a => decide (1 < ns.count a)) := by rw [e]; exact List.mem_cons_self
  obtain ⟨m1, m2⟩ := List.mem_filter.mp hmem
  refine ret_ev (t := tyS n) (ev_op (ev_is (t := tyL ((sortS ns).filterMap fun a => if decide (1 < ns.count a) = true then some (tyS a) else none)) (show tyL ((sortS ns).filterMap fun a => if decide (1 < ns.count a) = true then some (tyS a) else none) = tyL (tyS n :: r.map tyS) from by rw [fe, e]; rfl) (ev_lc (out := fun a => if decide (1 < ns.count a) = true then some (tyS a) else none) tyS (evi_list (ev_cb (ea_cons x0 ea_nil) (rc_srtStrs hz))).i lz fun a ha D1 k1 x hx => ?_)) ev_c (rv_ixL (ts := tyS n :: r.map tyS) at_head)) k fun v D1 H1 g tv => q v D1 H1 g ⟨n, tv, of_decide_eq_true m2, (perm_sortS ns).mem_iff.mp m1⟩
  exact lcel_if (b := decide (1 < ns.count a)) rfl (eb_test (ev_op (ev_countS (ev_var (i := 0) rfl ((tyNames ns).up k1.q h0)) (ev_var (i := 1) rfl hx)) ev_c (rv_gt (decide_eq_decide.mpr ⟨fun h => by omega, fun h => by omega⟩)))) (fun h => ⟨tyS a, by rw [if_pos h], ev_var (i := 1) rfl hx⟩) fun h => by rw [if_neg (by rw [h]; decide)]
end
end K02
set_option Elab.async false
set_option linter.all false
set_option maxRecDepth 100000
set_option maxHeartbeats 4000000
/-! Evaluations at a heap as it is (what may change is known too); constructors; fields set; sorted int keys. -/
namespace K02
open PySem PySem.Spec PyProof.Rows L2 PySem.W
def EvAt (te : TE) (σ : Sl) (D H : Hp) (t : Ty) : Prop := ∀ Q : VK, (∀ v D' H', Grow D H D' H' → t.p v D' → Q v H') → te σ H Q
def EvIAt (wi : TI) (σ : Sl) (D H : Hp) (ts : List Ty) : Prop := ∀ R : It → Hp → Prop, (∀ J D' H', Grow D H D' H' → TW J D' ts → R J H') → wi σ H R
section
variable {K : PySem.W.Frag} {σ : Sl} {D D' H : Hp} {te ta tk td tv : TE} {tt : TT} {t u : Ty} {ts : List Ty} {v : V} {C : Addr}
theorem Ev.at_ (e : Ev te σ D t) (k : Kp D H) : EvAt te σ D H t := fun Q q => e.use k q
theorem EvI.at_ {wi : TI} (e : EvI wi σ D ts) (k : Kp D H) : EvIAt wi σ D H ts := fun R q => e D H (Kp.refl D) k R q
def DcElAt (g : TG) (tk tv : TE) (vs : List Nat) (σ : Sl) (D1 H1 : Hp) (x : V) (ky : V) (t : Ty) : Prop :=
  ∀ (QY : V → V → Hp → Prop) (QN : Hp → Prop), (∀ z D2 H2, Grow D1 H1 D2 H2 → t.p z D2 → QY ky z H2) →
    g x (wipe σ vs) H1 fun σ2 H2 => wipe σ2 vs = wipe σ vs ∧ tYes σ2 H2 fun b H3 => if b = true then tk σ2 H3 fun y H4 => tv σ2 H4 fun z H5 => QY y z H5 else QN H3
theorem dcel_at {j : Nat} {vs : List Nat} {x ky : V} (hw : wipe ((wipe σ vs).set j (some x)) vs = wipe σ vs) (e1 : EvAt tk ((wipe σ vs).set j (some x)) D H (tyV ky)) (e2 : ∀ D2 H2, Grow D H D2 H2 → EvAt tv ((wipe σ vs).set j (some x)) D2 H2 t) : DcElAt (gName j) tk tv vs σ D H x ky t := fun QY QN q =>
  ⟨hw, iteT (B := QN H) (e1 _ fun y D2 H2 g2 hy => e2 D2 H2 g2 _ fun z D3 H3 g3 tz => by
    have hy : y = ky := hy
    rw [hy]
    exact q z D3 H3 (g2.trans g3) tz)⟩
theorem dc_at {α : Type} {wi : TI} {g : TG} {vs : List Nat} {xs : List α} (τ : α → Ty) (key : α → Key) (out : α → Ty) (hi : EvIAt wi σ D H (xs.map τ)) (nd : (xs.map key).Nodup) (hz : xs.length ≤ 100000)
    (hel : ∀ a ∈ xs, ∀ D1 H1, Grow D H D1 H1 → ∀ x, (τ a).p x D1 → DcElAt g tk tv vs σ D1 H1 x (kV (key a)) (out a)) : EvAt (tDc wi g tYes tk tv vs) σ D H (tyD (xs.map fun a => (key a, out a))) := fun Q q => hi _ fun J D2 H2 g2 w Dl hD => by
  refine ⟨fun i m H3 => m = xs.length - i ∧ i ≤ xs.length ∧ ∃ D3 acc, Grow D2 H2 D3 H3 ∧ Loc Dl (.dK acc) D3 H3 ∧ KvsAt ((xs.take i).map fun a => (key a, out a)) acc D3, ⟨xs.length, by simp, Nat.zero_le _, D2, [], (Grow.refl g2.dh).mut hD (g2.dh.dom hD) nf_dK, Loc.new g2.dh hD, by
    rw [List.take_zero]
    exact .nil⟩, ?_⟩
  rintro i m H3 ⟨rfl, hi3, D3, acc, g3, c3, t3⟩
  by_cases hlt : i < xs.length
  · have hg : xs[i]? = some xs[i] := by simp [hlt]
    have hm : (xs.map τ)[i]? = some (τ xs[i]) := by rw [List.getElem?_map, hg]; rfl
    have tk1 := take_one hg
    refine .inr ⟨w.goes i H3 (g3.d.trans g3.dh) (by rw [List.length_map]; exact hlt), fun H4 => ∃ D4 acc, Grow D2 H2 D4 H4 ∧ Loc Dl (.dK acc) D4 H4 ∧ KvsAt ((xs.take (i + 1)).map fun a => (key a, out a)) acc D4,
      fun H4 ⟨D4, acc4, r⟩ => ⟨xs.length - (i + 1), by omega, rfl, hlt, D4, acc4, r⟩, fun x H4 y => ?_⟩
    obtain ⟨D4, g4, tx⟩ := w.yld i _ D3 H3 x H4 g3.d g3.dh hm y
    refine hel xs[i] (List.mem_of_getElem? hg) D4 H4 ((g2.trans g3).trans g4) x tx (fun y z H5 => ∃ kvs k, y = kV k ∧ H5 Dl = some (.dK kvs) ∧ kvs.length < sizeLine ∧ ∃ D6 acc, Grow D2 H2 D6 (upd H5 Dl (.dK (putK kvs k z))) ∧ Loc Dl (.dK acc) D6 (upd H5 Dl (.dK (putK kvs k z))) ∧ KvsAt ((xs.take (i + 1)).map fun a => (key a, out a)) acc D6) _ (fun z D5 H5 g5 tz => ?_)
    have gg := g4.trans g5
    have c5 := c3.grow (x := .dK acc) True.intro gg
    have hacc : acc.length ≤ xs.length := by
      rw [pr_len t3, List.length_map, List.length_take]
      omega
    have hno : key xs[i] ∉ acc.map (·.1) := by
      rw [t3.keys, List.map_map]
      intro hm2
      obtain ⟨y, hy, e⟩ := List.mem_map.mp hm2
      exact nd_take nd hg y hy e
    have hp : putK acc (key xs[i]) z = acc ++ [(key xs[i], z)] := putK_new z (valV_no hno)
    refine ⟨acc, key xs[i], rfl, c5.h, Nat.lt_of_le_of_lt (Nat.le_trans hacc hz) (by decide), D5, _, (g3.trans gg).mut hD c5.d nf_dK, c5.put, ?_⟩
    rw [hp, tk1, List.map_append]
    exact pr_app (KvsAt.up gg.d.q t3) (.cons ⟨rfl, tz⟩ .nil)
  · have e : i = xs.length := by omega
    subst e
    rw [List.take_length] at t3
    have st := w.stops H3 (g3.d.trans g3.dh)
    rw [List.length_map] at st
    obtain ⟨g5, k5⟩ := c3.own g3 hD (.inr True.intro)
    exact .inl ⟨st, q (.ref Dl) _ H3 (g2.trans g5) ⟨Dl, acc, rfl, .inl upd_same, KvsAt.up k5.q t3⟩⟩
def DgElAt (g : TG) (tk tv : TE) (vs : List Nat) (σ : Sl) (D1 H1 : Hp) (x : V) (kt t : Ty) : Prop :=
  ∀ (QY : V → V → Hp → Prop) (QN : Hp → Prop), (∀ y z D2 H2, Grow D1 H1 D2 H2 → kt.p y D2 → t.p z D2 → QY y z H2) →
    g x (wipe σ vs) H1 fun σ2 H2 => wipe σ2 vs = wipe σ vs ∧ tYes σ2 H2 fun b H3 => if b = true then tk σ2 H3 fun y H4 => tv σ2 H4 fun z H5 => QY y z H5 else QN H3
theorem dgel_at {j : Nat} {vs : List Nat} {x : V} {kt : Ty} (hw : wipe ((wipe σ vs).set j (some x)) vs = wipe σ vs) (e1 : EvAt tk ((wipe σ vs).set j (some x)) D H kt) (e2 : ∀ D2 H2, Grow D H D2 H2 → EvAt tv ((wipe σ vs).set j (some x)) D2 H2 t) : DgElAt (gName j) tk tv vs σ D H x kt t := fun QY QN q =>
  ⟨hw, iteT (B := QN H) (e1 _ fun y D2 H2 g2 hy => e2 D2 H2 g2 _ fun z D3 H3 g3 tz => q y z D3 H3 (g2.trans g3) (kt.up g3.d.q hy) tz)⟩
theorem dcT_at {α : Type} {wi : TI} {g : TG} {vs : List Nat} {xs : List α} (τ : α → Ty) (key : α → List Key) (out : α → Ty) (hi : EvIAt wi σ D H (xs.map τ)) (nd : (xs.map key).Nodup) (hz : xs.length ≤ 100000)
    (hel : ∀ a ∈ xs, ∀ D1 H1, Grow D H D1 H1 → ∀ x, (τ a).p x D1 → DgElAt g tk tv vs σ D1 H1 x (tyKey (key a)) (out a)) : EvAt (tDcG (fun _ => .dT []) putT wi g tYes tk tv vs) σ D H (tyE (xs.map fun a => (key a, out a))) := fun Q q => hi _ fun J D2 H2 g2 w Dl hD => by
  refine ⟨fun i m H3 => m = xs.length - i ∧ i ≤ xs.length ∧ ∃ D3 acc, Grow D2 H2 D3 H3 ∧ Loc Dl (.dT acc) D3 H3 ∧ KvsAt ((xs.take i).map fun a => (key a, out a)) acc D3, ⟨xs.length, by simp, Nat.zero_le _, D2, [], (Grow.refl g2.dh).mut hD (g2.dh.dom hD) nf_dT, Loc.new g2.dh hD, by
    rw [List.take_zero]
    exact .nil⟩, ?_⟩
  rintro i m H3 ⟨rfl, hi3, D3, acc, g3, c3, t3⟩
  by_cases hlt : i < xs.length
  · have hg : xs[i]? = some xs[i] := by simp [hlt]
    have hm : (xs.map τ)[i]? = some (τ xs[i]) := by rw [List.getElem?_map, hg]; rfl
    have tk1 := take_one hg
    refine .inr ⟨w.goes i H3 (g3.d.trans g3.dh) (by rw [List.length_map]; exact hlt), fun H4 => ∃ D4 acc, Grow D2 H2 D4 H4 ∧ Loc Dl (.dT acc) D4 H4 ∧ KvsAt ((xs.take (i + 1)).map fun a => (key a, out a)) acc D4,
      fun H4 ⟨D4, acc4, r⟩ => ⟨xs.length - (i + 1), by omega, rfl, hlt, D4, acc4, r⟩, fun x H4 y => ?_⟩
    obtain ⟨D4, g4, tx⟩ := w.yld i _ D3 H3 x H4 g3.d g3.dh hm y
    refine hel xs[i] (List.mem_of_getElem? hg) D4 H4 ((g2.trans g3).trans g4) x tx (fun y z H5 => ∃ H6, putT H5 Dl y z H6 ∧ ∃ D6 acc, Grow D2 H2 D6 H6 ∧ Loc Dl (.dT acc) D6 H6 ∧ KvsAt ((xs.take (i + 1)).map fun a => (key a, out a)) acc D6) _ (fun y z D5 H5 g5 ty tz => ?_)
    have gg := g4.trans g5
    have c5 := c3.grow (x := .dT acc) True.intro gg
    have hacc : acc.length ≤ xs.length := by
      rw [pr_len t3, List.length_map, List.length_take]
      omega
    have hno : key xs[i] ∉ acc.map (·.1) := by
      rw [t3.keys, List.map_map]
      intro hm2
      obtain ⟨y, hy, e⟩ := List.mem_map.mp hm2
      exact nd_take nd hg y hy e
    have hp : putK acc (key xs[i]) z = acc ++ [(key xs[i], z)] := putK_new z (valV_no hno)
    obtain ⟨b, rfl, hb⟩ := key_at ty
    refine ⟨_, ⟨acc, key xs[i], b, c5.h, rfl, gg.dh.q.fx (u := .tup _) True.intro hb, Nat.lt_of_le_of_lt (Nat.le_trans hacc hz) (by decide), rfl⟩, D5, _, (g3.trans gg).mut hD c5.d nf_dT, c5.put, ?_⟩
    rw [hp, tk1, List.map_append]
    exact pr_app (KvsAt.up gg.d.q t3) (.cons ⟨rfl, tz⟩ .nil)
  · have e : i = xs.length := by omega
    subst e
    rw [List.take_length] at t3
    have st := w.stops H3 (g3.d.trans g3.dh)
    rw [List.length_map] at st
    obtain ⟨g5, k5⟩ := c3.own g3 hD (.inr True.intro)
    exact .inl ⟨st, q (.ref Dl) _ H3 (g2.trans g5) ⟨Dl, acc, rfl, .inl upd_same, KvsAt.up k5.q t3⟩⟩

/-! ### constructors: self at a, its fields fs -/
def SpI {α : Type} (C : Addr) (A : α → List Ty) (B : α → List (Str × Ty)) (Cn : α → Prop) : Sp := fun vs H Q _ => ∃ x a dx ws D D0 H0, vs = .ref a :: ws ∧ Cn x ∧ NoLk D ∧ Grow D0 H0 D H ∧ H0 a = none ∧ Loc a (.ins C dx []) D H ∧ TysAt (A x) ws D ∧
  ∀ D' H' fs, Grow D0 H0 D' H' → Loc a (.ins C dx fs) D' H' → KvsAt (B x) fs D' → Q .non H'
theorem SpI.len {α : Type} {A : α → List Ty} {B : α → List (Str × Ty)} {Cn : α → Prop} {n : Nat} (hn : ∀ x, (A x).length = n) {vs : List V} {H : Hp} {Q : VK} {E : XK} (h : SpI C A B Cn vs H Q E) : vs.length = n + 1 := by
  obtain ⟨x, a, dx, ws, D, D0, H0, rfl, _, _, _, _, _, h, _⟩ := h
  rw [List.length_cons, pr_len h, hn]
theorem nf_ins {dx : Addr} {fs : List (Str × V)} : NoFz (.ins C dx fs) := fun x y e => by cases e
theorem ev_make {α : Type} {A : α → List Ty} {B : α → List (Str × Ty)} {Cn : α → Prop} {E : XK} {ta : TA} (x : α) (c : Cn x) (n : NoLk D) (e : EvA ta σ D (A x)) : Ev (tMake C (SpI C A B Cn) [] E ta) σ D (tyO C (B x)) := fun D1 H k h Q q =>
  e D1 H k h _ fun vs D2 H2 g2 tv a dx ha hdx ne => by
    rw [List.append_nil]
    have g3 := (Grow.refl g2.dh).add (u := .own a) hdx (.inl True.intro)
    have ha2 : upd H2 dx (.own a) a = none := by rw [upd_ne (fun z => ne z.symm)]; exact ha
    have g4 := g3.mut ha (g3.dh.dom ha2) (nf_ins (C := C) (dx := dx) (fs := []))
    refine ⟨x, a, dx, vs, _, D2, H2, rfl, c, n.up ((k.trans g2.d).trans g4.d), g4, ha, ⟨g3.dh.dom ha2, upd_same⟩, TysAt.up g4.d.q tv, fun D' H' fs g5 c5 kv => ⟨rfl, ?_⟩⟩
    obtain ⟨g6, k6⟩ := c5.own g5 ha (.inl True.intro)
    exact q (.ref a) _ H' (g2.trans g6) ⟨a, dx, fs, rfl, upd_same, KvsAt.up k6.q kv⟩
theorem putF_new {f : Str} {v : V} : ∀ {fs : List (Str × V)}, f ∉ fs.map (·.1) → putF f v fs = fs ++ [(f, v)]
  | [], _ => rfl
  | (g, x) :: r, h => by
    rw [List.map_cons, List.mem_cons, not_or] at h
    unfold putF
    rw [if_neg (fun z => h.1 z.symm), putF_new h.2]
    rfl
/-- self.f = e, f new -/
theorem st_fld {f : Str} {E : Ends} {i : Nat} {a dx : Addr} {fs : List (Str × V)} {fts : List (Str × Ty)} {D0 H0 : Hp} (hl : σ[i]? = some (some (.ref a))) (c : Loc a (.ins C dx fs) D H) (e : EvAt tv σ D H t) (g : Grow D0 H0 D H) (h0 : H0 a = none) (kv : KvsAt fts fs D) (cl : Cls K C) (na : NoAttr K C f) (hz : fs.length < 1000)
    (hn : f ∉ fts.map (·.1)) (q : ∀ v D1 H1, Kp D D1 → Grow D0 H0 D1 H1 → Loc a (.ins C dx (fs ++ [(f, v)])) D1 H1 → KvsAt (fts ++ [(f, t)]) (fs ++ [(f, v)]) D1 → E.nx σ H1) : sFld K (tVar i) tv f E σ H :=
  e _ fun v D1 H1 g1 tv1 => by
    have c1 := c.grow (x := .ins C dx fs) True.intro g1
    refine ⟨.ref a, hl, a, C, dx, fs, rfl, c1.h, cl, na, hz, ?_⟩
    rw [putF_new (by rw [kv.keys]; exact hn)]
    exact q v D1 _ g1.d ((g.trans g1).mut h0 c1.d nf_ins) c1.put (pr_app (KvsAt.up g1.d.q kv) (.cons ⟨rfl, tv1⟩ .nil))
/-- self.f read while self may change -/
theorem self_fld {f : Str} {i : Nat} {a dx : Addr} {fs : List (Str × V)} {fts : List (Str × Ty)} (hl : σ[i]? = some (some (.ref a))) (c : Loc a (.ins C dx fs) D H) (k : Kp D H) (kv : KvsAt fts fs D) (cl : Cls K C) (na : NoAttr K C f) (hf : Has fts f t) : EvAt (tFld K (tVar i) f) σ D H t := fun Q q => by
  obtain ⟨v, h1, h2⟩ := fld_at kv hf
  exact ⟨.ref a, hl, a, C, dx, fs, v, rfl, c.h, cl, na, h1, q v D H (Grow.refl k) h2⟩
theorem list_at (e : EvAt te σ D H (tyL ts)) : EvIAt (iList K te) σ D H ts := fun R q => e _ fun x D2 H2 g2 tx =>
  (evi_list (K := K) (te := fun _ H Q => Q x H) (σ := σ) (fun D3 H3 k3 h3 Q q => q x D3 H3 (Grow.refl h3) ((tyL ts).up k3.q tx))).i D2 H2 (Kp.refl _) g2.dh R fun J D3 H3 g3 w => q J D3 H3 (g2.trans g3) w

/-! ### sorted(d), int keys -/
theorem rc_srtDI {ks : List Int} {τ : Int → Ty} (hs : ks.Pairwise (· ≤ ·)) (hz : ks.length < 64) : RC (fun xs H Q => ∃ (a : Addr) (kvs : List (Key × V)) (ks : List Int), xs = [.ref a] ∧ Rd H a (.dK kvs) ∧ kvs.map (·.1) = ks.map Sum.inl ∧ ks.length < 64 ∧
    ∀ (ys : List Int) (p : Addr), ys.Perm ks → ys.Pairwise (· ≤ ·) → H p = none → Q (.ref p) (upd H p (.lst (ys.map V.int)))) [tyD (ks.map fun s => (.inl s, τ s))] (tyL (ks.map tyI)) := fun xs D H k h Q q => by
  obtain ⟨v, rfl, a, kvs, rfl, ha, kv⟩ := args1 h
  refine ⟨a, kvs, ks, rfl, k.q.sf (u := .dK kvs) True.intro ha, by rw [kv.keys, List.map_map]; rfl, hz, fun ys p py sy hp => ?_⟩
  have e : ys = ks := List.Perm.eq_of_pairwise (le := (· ≤ ·)) (fun a b _ _ h1 h2 => Int.le_antisymm h1 h2) sy hs py
  subst e
  refine q (.ref p) _ _ ((Grow.refl k).add (u := .lst _) hp (.inl True.intro)) ⟨p, _, rfl, upd_same, ?_⟩
  have := tysAt_of (xs := ys.map V.int) (H := upd D p (.lst (ys.map V.int)))
  rw [List.map_map] at this
  exact this
theorem rc_lenT' {kts : List (List Key × Ty)} (n : NoLk D) : ∀ xs D1 H, Kp D D1 → Kp D1 H → TysAt [tyE kts] xs D1 → ∀ Q : VK, (∀ v D' H', Grow D1 H D' H' → (tyI kts.length).p v D' → Q v H') → rLenT xs H Q := fun xs D1 H k1 k h Q q => by
  obtain ⟨v, rfl, hv⟩ := args1 h
  obtain ⟨d, kvs, rfl, hd, kv⟩ := tyE_at (n.up k1) hv
  exact ⟨d, kvs, rfl, k.exact (u := .dT kvs) True.intro hd, q _ D1 H (Grow.refl k) (by rw [pr_len kv]; rfl)⟩
theorem ev_lenT {kts : List (List Key × Ty)} (n : NoLk D) (e : Ev te σ D (tyE kts)) : Ev (tCB rLenT (tCons te tNil)) σ D (tyI kts.length) := fun D1 H k h Q q =>
  (ea_cons e ea_nil) D1 H k h _ fun xs D2 H2 g2 tx => rc_lenT' n xs D2 H2 (k.trans g2.d) g2.dh tx Q fun v D3 H3 g3 tz => q v D3 H3 (g2.trans g3) tz
end
end K02
set_option Elab.async false
set_option linter.all false
set_option maxRecDepth 100000
set_option maxHeartbeats 8000000
namespace K02
open PySem PySem.Spec PyProof.Rows L2 PySem.W
/-! ### programs as data -/
structure Pg where
  ls : List Nat
  n : Nat
  regs : List Str
  fst : Str → Str
  goal : Int → Nat → Int
  row : Int → Nat → Str → List Item
  en : Int → Option (List Item)
def sts (n : Nat) : List Int := (List.range n).map fun i => ((i : Nat) : Int)
def due (p : Pg) : List (Int × Nat) := (sts p.n).flatMap fun s => p.ls.map fun c => (s, c)
def dkey (x : Int × Nat) : List Key := [.inl x.1, .inr (sign x.2)]
def ens (p : Pg) : List Int := (sts p.n).filter fun s => (p.en s).isSome
def enr (p : Pg) (s : Int) : List Item := (p.en s).getD []
abbrev tySteps (p : Pg) : Ty := tyE ((due p).map fun x => (dkey x, tyStep p.regs (p.goal x.1 x.2, p.row x.1 x.2)))
abbrev tyEnds (p : Pg) : Ty := tyD ((ens p).map fun s => (Sum.inl s, tyRow (enr p s)))
def normP (p : Pg) : Pg := { p with row := fun s c r => joinR (p.row s c r), en := fun s => (p.en s).map joinR }
structure PgOk (p : Pg) : Prop where
  n : p.n = 1 ∨ p.n = 2
  ls : p.ls = [97, 98] ∨ p.ls = [98]
  regs : p.regs = [] ∨ p.regs = [("x" : Str)] ∨ p.regs = [("x" : Str), ("y" : Str)]
  fst : ∀ r ∈ p.regs, (p.fst r).length ≤ 100 ∧ Sg (p.fst r)
  goal : ∀ x ∈ due p, 0 ≤ p.goal x.1 x.2 ∧ p.goal x.1 x.2 < p.n
  row : ∀ x ∈ due p, ∀ r ∈ p.regs, (p.row x.1 x.2 r).length ≤ 5 ∧ RowOk p.regs (p.row x.1 x.2 r)
  en : ∀ s ∈ ens p, (enr p s).length ≤ 5 ∧ RowOk p.regs (enr p s)
abbrev pgFields (p : Pg) : List (Str × Ty) := [("letters", tyS (txt p.ls)), ("states", tyI p.n), ("registers", tyNames p.regs), ("firsts", tyHeld p.regs p.fst), ("steps", tySteps p), ("ends", tyEnds p)]
abbrev tyProg (K : PySem.W.Frag) (p : Pg) : Ty := tyO (CP K) (pgFields p)
theorem txt_list (cs : List Nat) : (txt cs).cps.toList = cs := by simp [txt]
theorem txt_len (cs : List Nat) : (txt cs).length = cs.length := by simp [txt, Str.length]
theorem sts_mem {n : Nat} {s : Int} : s ∈ sts n ↔ 0 ≤ s ∧ s < n := by
  unfold sts
  rw [List.mem_map]
  constructor
  · rintro ⟨i, hi, rfl⟩
    have := List.mem_range.mp hi
    omega
  · rintro ⟨h1, h2⟩
    exact ⟨s.toNat, List.mem_range.mpr (by omega), by omega⟩
theorem due_mem {p : Pg} {x : Int × Nat} : x ∈ due p ↔ (0 ≤ x.1 ∧ x.1 < p.n) ∧ x.2 ∈ p.ls := by
  unfold due
  rw [List.mem_flatMap]
  constructor
  · rintro ⟨s, hs, hx⟩
    obtain ⟨c, hc, rfl⟩ := List.mem_map.mp hx
    exact ⟨sts_mem.mp hs, hc⟩
  · rintro ⟨h1, h2⟩
    exact ⟨x.1, sts_mem.mpr h1, List.mem_map.mpr ⟨x.2, h2, rfl⟩⟩
theorem sign_inj {a b : Nat} (h : sign a = sign b) : a = b := by
  have : (sign a).cps.toList = (sign b).cps.toList := by rw [h]
  simpa [sign] using this
theorem dkey_inj (x y : Int × Nat) (h : dkey x = dkey y) : x = y := by
  obtain ⟨a, b⟩ := x
  obtain ⟨c, d⟩ := y
  simp only [dkey, List.cons.injEq, Sum.inl.injEq, Sum.inr.injEq, and_true] at h
  rw [h.1, sign_inj h.2]
theorem PgOk.lsOk {p : Pg} (o : PgOk p) : ∀ c ∈ p.ls, c ∈ ("abcdefghijklmnopqrstuvwxyz0123456789" : Str).cps.toList := by
  rcases o.ls with h | h <;> rw [h] <;> decide +kernel
theorem PgOk.lsNd {p : Pg} (o : PgOk p) : p.ls.Nodup := by
  rcases o.ls with h | h <;> rw [h] <;> decide
theorem PgOk.lsLen {p : Pg} (o : PgOk p) : 1 ≤ p.ls.length ∧ p.ls.length ≤ 2 := by
  rcases o.ls with h | h <;> rw [h] <;> decide
theorem PgOk.nLe {p : Pg} (o : PgOk p) : 1 ≤ p.n ∧ p.n ≤ 2 := by
  rcases o.n with h | h <;> rw [h] <;> decide
theorem PgOk.regsLen {p : Pg} (o : PgOk p) : p.regs.length ≤ 2 := by
  rcases o.regs with h | h | h <;> rw [h] <;> decide
theorem PgOk.regsNd {p : Pg} (o : PgOk p) : p.regs.Nodup := by
  rcases o.regs with h | h | h <;> rw [h] <;> decide +kernel
theorem PgOk.regsOk {p : Pg} (o : PgOk p) : ∀ r ∈ p.regs, 1 ≤ r.length ∧ r.length ≤ 8 ∧ Sm r := by
  have : ∀ r ∈ (["x", "y"] : List Str), 1 ≤ r.length ∧ r.length ≤ 8 ∧ Sm r := by
    unfold Sm
    decide +kernel
  intro r hr
  rcases o.regs with h | h | h <;> rw [h] at hr
  · cases hr
  · exact this r (by rw [List.mem_singleton.mp hr]; decide +kernel)
  · exact this r hr
theorem due_len {p : Pg} (o : PgOk p) : (due p).length ≤ 4 := by
  unfold due
  rw [List.length_flatMap]
  have h1 := o.lsLen
  rcases o.n with h | h <;> rw [h] <;> simp [sts, List.range_succ] <;> omega
theorem due_nd {p : Pg} (o : PgOk p) : (due p).Nodup := by
  unfold due
  rcases o.n with h | h <;> rcases o.ls with k | k <;> rw [h, k] <;> decide +kernel
theorem keys_nd {p : Pg} (o : PgOk p) : ((due p).map dkey).Nodup := List.Pairwise.map _ (fun a b h e => h (dkey_inj a b e)) (due_nd o)
theorem sts_sorted (n : Nat) : (sts n).Pairwise (· < ·) := by
  unfold sts
  refine List.Pairwise.map _ (fun a b h => ?_) List.pairwise_lt_range
  omega
theorem ens_sorted (p : Pg) : (ens p).Pairwise (· ≤ ·) := (List.Pairwise.filter _ (sts_sorted p.n)).imp fun h => Int.le_of_lt h
theorem ens_nd (p : Pg) : (ens p).Nodup := (List.Pairwise.filter _ (sts_sorted p.n)).imp fun h => Int.ne_of_lt h
theorem ens_len {p : Pg} (o : PgOk p) : (ens p).length ≤ 2 := by
  have h1 : (ens p).length ≤ (sts p.n).length := List.length_filter_le _ _
  unfold sts at h1
  rw [List.length_map, List.length_range] at h1
  have := o.nLe
  omega
def dDue (x : Int × Nat) : PyData := .tuple [.int x.1, .str (sign x.2)]
theorem srt_due {p : Pg} (o : PgOk p) : (due p).mergeSort (dataLe false dDue) = due p := by
  refine List.mergeSort_of_pairwise ?_
  unfold due
  rcases o.n with h | h <;> rcases o.ls with k | k <;> rw [h, k] <;> decide +kernel
theorem srt_ls {p : Pg} (o : PgOk p) : p.ls.mergeSort (dataLe false fun c => .str (sign c)) = p.ls := by
  refine List.mergeSort_of_pairwise ?_
  rcases o.ls with k | k <;> rw [k] <;> decide +kernel
theorem srt_regs {p : Pg} (o : PgOk p) : sortS p.regs = p.regs := by
  refine List.mergeSort_of_pairwise ?_
  rcases o.regs with k | k | k <;> rw [k] <;> decide +kernel
theorem glue_ls {p : Pg} (o : PgOk p) : glue (p.ls.map sign) = txt p.ls := by
  rcases o.ls with k | k <;> rw [k] <;> decide +kernel
section
variable {P : Program} {w : World} {K : PySem.W.Frag} {mg : Str → Option Value} {base : Heap}
theorem all_true {α : Type} {l : List α} : l.all (fun _ => true) = true := List.all_eq_true.mpr fun _ _ => rfl
/-- all([..]), each true -/
theorem eb_allT {σ : Sl} {D : Hp} {α : Type} {te : TE} {xs : List α} (e : Ev te σ D (tyL (xs.map fun _ => tyB true))) : Ev (tCB (rAll K) (tCons te tNil)) σ D (tyB true) := by
  have := ev_cb (ea_cons e ea_nil) (rc_allF (K := K) (xs := xs) (f := fun _ => true))
  rw [all_true] at this
  exact this
theorem tys_step {p : Pg} {x : Int × Nat} (h : x ∈ due p) : Has ((due p).map fun x => (dkey x, tyStep p.regs (p.goal x.1 x.2, p.row x.1 x.2))) (dkey x) (tyStep p.regs (p.goal x.1 x.2, p.row x.1 x.2)) :=
  has_map dkey (fun x => tyStep p.regs (p.goal x.1 x.2, p.row x.1 x.2)) dkey_inj h
theorem tys_end {p : Pg} {s : Int} (h : s ∈ ens p) : Has ((ens p).map fun s => ((Sum.inl s : Key), tyRow (enr p s))) (Sum.inl s) (tyRow (enr p s)) :=
  has_map (fun s : Int => (Sum.inl s : Key)) (fun s => tyRow (enr p s)) (fun a b e => Sum.inl.inj e) h
theorem key_tup {σ : Sl} {D : Hp} {te ta : TE} {x : Int × Nat} (e1 : Ev te σ D (tyI x.1)) (e2 : Ev ta σ D (tyS (sign x.2))) : Ev (tTup (tCons te (tCons ta tNil))) σ D (tyKey (dkey x)) := ev_tup (ts := [tyI x.1, tyS (sign x.2)]) (ea_cons e1 (ea_cons e2 ea_nil))
theorem ens_norm (p : Pg) : ens (normP p) = ens p := by
  unfold ens normP
  congr 1
  funext s
  exact Option.isSome_map ..
theorem enr_norm {p : Pg} {s : Int} (h : s ∈ ens p) : enr (normP p) s = joinR (enr p s) := by
  unfold ens at h
  obtain ⟨_, h2⟩ := List.mem_filter.mp h
  obtain ⟨r, hr⟩ := Option.isSome_iff_exists.mp h2
  show ((p.en s).map joinR).getD [] = joinR ((p.en s).getD [])
  rw [hr]
  rfl
theorem ev_isiE {σ : Sl} {D : Hp} {te : TE} {kts : List (List Key × Ty)} (n : NoLk D) (e : Ev te σ D (tyE kts)) : Ev (tCB (rIsi K) (tCons te (tCons (tC (.ty "dict")) tNil))) σ D (tyB true) := fun D1 H k h Q q =>
  e D1 H k h _ fun x D2 H2 g2 tx => by
    obtain ⟨d, kvs, rfl, hd, kv⟩ := tyE_at (n.up (k.trans g2.d)) tx
    exact ⟨_, _, _, _, true, rfl, .ty "dict", .base (.dT (g2.dh.exact (u := .dT kvs) True.intro hd)), kit_ty (by decide +kernel), q _ D2 H2 g2 rfl⟩
theorem due_tys (p : Pg) (τ : Int × Nat → Ty) : ((sts p.n).flatMap fun s => p.ls.map fun c => τ (s, c)) = (due p).map τ := by
  unfold due
  rw [List.map_flatMap]
  congr 1
  funext s
  rw [List.map_map]
  rfl
theorem dp_key (x : Int × Nat) : IsDp K (tyKey (dkey x)) (dDue x) := dp_tup2 dp_int dp_str
theorem sq_fld {σ : Sl} {D H : Hp} {t : Ty} {tv : TE} {C : Addr} {f : Str} {E : Ends} {u : TS} {i : Nat} {a dx : Addr} {fs : List (Str × V)} {fts : List (Str × Ty)} {D0 H0 : Hp} (hl : σ[i]? = some (some (.ref a))) (c : Loc a (.ins C dx fs) D H) (e : EvAt tv σ D H t) (g : Grow D0 H0 D H) (h0 : H0 a = none) (kv : KvsAt fts fs D) (cl : Cls K C) (na : NoAttr K C f) (hz : fs.length < 1000)
    (hn : f ∉ fts.map (·.1)) (q : ∀ v D1 H1, Kp D D1 → Grow D0 H0 D1 H1 → Loc a (.ins C dx (fs ++ [(f, v)])) D1 H1 → KvsAt (fts ++ [(f, t)]) (fs ++ [(f, v)]) D1 → u E σ H1) : tSeq (sFld K (tVar i) tv f) u E σ H := st_fld hl c e g h0 kv cl na hz hn q
abbrev sp_Program_init (K : PySem.W.Frag) : Sp := SpI (CP K) (fun p : Pg => [tyS (txt p.ls), tyI p.n, tyNames p.regs, tyHeld p.regs p.fst, tySteps p, tyEnds p]) (fun p => pgFields (normP p)) PgOk
theorem cal_Program_init (F : Fc K mg) : Mak P w K mg base 4 "Program" (CP K) (sp_Program_init K) := mk_Program_init F (fun _ _ _ _ h => SpI.len (n := 6) (fun _ => rfl) h) fun f cdv A outer s H vs Q E hr h => by
  have nd := sc_Program_init.nd
  have hu := Nat.lt_of_le_of_lt (Nat.add_le_add_left (by decide : 1 ≤ 64) _) hr.units
  have c_are_letters := cal_are_letters (P := P) (w := w) (base := base) F
  have c_is_whole := cal_is_whole (P := P) (w := w) (base := base) F
  have c_is_word := cal_is_word (P := P) (w := w) (base := base) F
  have c_is_signs := cal_is_signs (P := P) (w := w) (base := base) F
  have c_is_step := cal_is_step (P := P) (w := w) (base := base) F
  have c_is_row := cal_is_row (P := P) (w := w) (base := base) F
  have c_whole_rows := cal_whole_rows (P := P) (w := w) (base := base) F
  have c_joined := cal_joined (P := P) (w := w) (base := base) F
  obtain ⟨p, a, dx, ws, D, D0, H0, rfl, o, nl, g, h0, cL, tv, q⟩ := h
  refine ⟨_, (pss_cons (ps_if (pt_not (pt_val (pe_cal c_are_letters hr (by decide) (by rfl) (pa_cons (pv 1) pa_nil)))) (pss_one ps_never) pss_nil)
    (pss_cons (ps_if (PW.pt (pw_or (pt_not (pt_val (pe_cal c_is_whole hr (by decide) (by rfl) (pa_cons (pv 2) pa_nil)))) (pw_or1 (pt_not (pt_chain op_le op_le pe_int (pv 2) (C8.pe_gc (by rfl) F.vi_MOST_STATES)))))) (pss_one ps_never) pss_nil)
    (pss_cons (ps_if (PW.pt (pw_or (pt_not (pt_val (pe_callB call_isiT (by rfl) F.f_isinstance bt_isinstance (pa_cons (pv 3) (pa_cons (pe_tup (pa_cons (pe_bltn (v := .ty "list") (by rfl) F.f_list bt_list rfl) (pa_cons (pe_bltn (v := .ty "tuple") (by rfl) F.f_tuple bt_tuple rfl) pa_nil))) pa_nil))))) (pw_or1 (pt_cmpR op_gt (pe_callB k_len_seq (by rfl) F.f_len bt_len (pa_cons (pv 3) pa_nil)) (C8.pe_gc (by rfl) F.vi_MOST_REGISTERS) (nomark _))))) (pss_one ps_never) pss_nil)
    (pss_cons (ps_if (PW.pt (pw_or (pt_not (pt_val (pe_callB (k_all rfl) (by rfl) F.f_all bt_all (pa_cons (pe_lc (own := [("name", 8)]) rfl nd (k_pi_list (pv 3)) (blkOk_by (N := n_Program_init) (sc := defScope s_Program_init) (by decide +kernel)) (fun _ _ _ _ _ => (pg_name (i := 8) nd rfl (.inl rfl))) (fun _ _ _ _ _ => pts_nil) (fun _ _ _ _ _ => (pe_cal c_is_word hr (by decide) (by rfl) (pa_cons (pv 8) pa_nil)))) pa_nil)))) (pw_or1 (pt_cmpR op_ne (pe_callB call_lenSet (by rfl) F.f_len bt_len (pa_cons (pe_callTy (cr_setL rfl) (by rfl) F.f_set bt_set (pa_cons (pv 3) pa_nil)) pa_nil)) (pe_callB k_len_seq (by rfl) F.f_len bt_len (pa_cons (pv 3) pa_nil)) (nomark _))))) (pss_one ps_never) pss_nil)
    (pss_cons (ps_if (PW.pt (pw_or (pt_not (pt_val (pe_callB k_isi (by rfl) F.f_isinstance bt_isinstance (pa_cons (pv 4) (pa_cons (pe_bltn (v := .ty "dict") (by rfl) F.f_dict bt_dict rfl) pa_nil))))) (pw_or1 (pt_not (pt_val (pe_callB (k_all rfl) (by rfl) F.f_all bt_all (pa_cons (pe_lock (pe_lc (own := [("name", 8)]) rfl nd (pi_keys (pv 4)) (blkOk_by (N := n_Program_init) (sc := defScope s_Program_init) (by decide +kernel)) (fun _ _ _ _ _ => (pg_name (i := 8) nd rfl (.inl rfl))) (fun _ _ _ _ _ => pts_nil) (fun _ _ _ _ _ => (pe_and (pe_cmpR k_in_seq (pv 8) (pv 3) rfl) (pe_one (pe_cal c_is_signs hr (by decide) (by rfl) (pa_cons (pe_dget hu (pv 4) (pv 8) (fun _ _ => rfl)) pa_nil))))))) pa_nil))))))) (pss_one ps_never) pss_nil)
    (pss_cons (ps_setLc2 (i := 7) (own := [("state", 9), ("letter", 10)]) (vs1 := [10]) rfl nd rfl rfl (sw_true rfl rfl rfl (by decide +kernel)) (pi_range1 (by rfl) F.f_range (pa_cons (pv 2) pa_nil)) (blkOk_by (N := n_Program_init) (sc := defScope s_Program_init) (by decide +kernel)) (by decide) (fun _ _ _ _ _ => (pg_name (i := 9) nd rfl (.inl rfl))) (fun _ _ _ _ _ => pts_nil) (fun _ _ _ _ _ => (pi_str (pv 1))) (fun _ _ _ _ _ => (pg_name (i := 10) nd rfl (.inl rfl))) (fun _ _ _ _ _ => pts_nil) (fun _ _ _ _ _ => (pe_tup (pa_cons (pv 9) (pa_cons (pv 10) pa_nil)))))
    (pss_cons (ps_if (PW.pt (pw_or (pt_not (pt_val (pe_callB k_isi (by rfl) F.f_isinstance bt_isinstance (pa_cons (pv 5) (pa_cons (pe_bltn (v := .ty "dict") (by rfl) F.f_dict bt_dict rfl) pa_nil))))) (pw_or (pt_cmpR op_ne (pe_callB call_len_dT (by rfl) F.f_len bt_len (pa_cons (pv 5) pa_nil)) (pe_callB k_len_seq (by rfl) F.f_len bt_len (pa_cons (pv 7) pa_nil)) (nomark _)) (pw_or1 (pt_not (pt_val (pe_callB (k_all rfl) (by rfl) F.f_all bt_all (pa_cons (pe_lc (own := [("one", 11)]) rfl nd (k_pi_list (pv 7)) (blkOk_by (N := n_Program_init) (sc := defScope s_Program_init) (by decide +kernel)) (fun _ _ _ _ _ => (pg_name (i := 11) nd rfl (.inl rfl))) (fun _ _ _ _ _ => pts_nil) (fun _ _ _ _ _ => (pe_cmp (pc_din hu (pv 11) (pv 5))))) pa_nil)))))))) (pss_one ps_never) pss_nil)
    (pss_cons (ps_if (pt_not (pt_val (pe_callB (k_all rfl) (by rfl) F.f_all bt_all (pa_cons (pe_lc (own := [("one", 11)]) rfl nd (k_pi_list (pv 7)) (blkOk_by (N := n_Program_init) (sc := defScope s_Program_init) (by decide +kernel)) (fun _ _ _ _ _ => (pg_name (i := 11) nd rfl (.inl rfl))) (fun _ _ _ _ _ => pts_nil) (fun _ _ _ _ _ => (pe_cal c_is_step hr (by decide) (by rfl) (pa_cons (pe_dget hu (pv 5) (pv 11) (fun _ _ => rfl)) (pa_cons (pv 2) (pa_cons (pv 3) pa_nil)))))) pa_nil)))) (pss_one ps_never) pss_nil)
    (pss_cons (ps_if (PW.pt (pw_or (pt_not (pt_val (pe_callB k_isi (by rfl) F.f_isinstance bt_isinstance (pa_cons (pv 6) (pa_cons (pe_bltn (v := .ty "dict") (by rfl) F.f_dict bt_dict rfl) pa_nil))))) (pw_or1 (pt_not (pt_val (pe_callB (k_all rfl) (by rfl) F.f_all bt_all (pa_cons (pe_lock (pe_lc (own := [("one", 11)]) rfl nd (pi_keys (pv 6)) (blkOk_by (N := n_Program_init) (sc := defScope s_Program_init) (by decide +kernel)) (fun _ _ _ _ _ => (pg_name (i := 11) nd rfl (.inl rfl))) (fun _ _ _ _ _ => pts_nil) (fun _ _ _ _ _ => (pe_and (pe_cal c_is_whole hr (by decide) (by rfl) (pa_cons (pv 11) pa_nil)) (pe_one (pe_chain op_le op_lt pe_int (pv 11) (pv 2))))))) pa_nil))))))) (pss_one ps_never) pss_nil)
    (pss_cons (ps_if (pt_not (pt_val (pe_callB (k_all rfl) (by rfl) F.f_all bt_all (pa_cons (pe_lock (pe_lc (own := [("row", 12)]) rfl nd (pi_values (pv 6)) (blkOk_by (N := n_Program_init) (sc := defScope s_Program_init) (by decide +kernel)) (fun _ _ _ _ _ => (pg_name (i := 12) nd rfl (.inl rfl))) (fun _ _ _ _ _ => pts_nil) (fun _ _ _ _ _ => (pe_cal c_is_row hr (by decide) (by rfl) (pa_cons (pv 12) (pa_cons (pv 3) pa_nil)))))) pa_nil)))) (pss_one ps_never) pss_nil)
    (pss_cons (ps_fld (pv 0) (pe_join pe_str (pe_callB (cr_srtS rfl hr.units) (by rfl) F.f_sorted bt_sorted (pa_cons (pv 1) pa_nil))) rfl)
    (pss_cons (ps_fld (pv 0) (pv 2) rfl)
    (pss_cons (ps_fld (pv 0) (pe_callB (cr_srtL hr.units) (by rfl) F.f_sorted bt_sorted (pa_cons (pv 3) pa_nil)) rfl)
    (pss_cons (ps_fld (pv 0) (pe_dc (own := [("name", 8)]) rfl nd (k_pi_list (k_fld (pv 0) rfl)) (blkOk_by (N := n_Program_init) (sc := defScope s_Program_init) (by decide +kernel)) (fun _ _ _ _ _ => (pg_name (i := 8) nd rfl (.inl rfl))) (fun _ _ _ _ _ => pts_nil) (fun _ _ _ _ _ => (pv 8)) (fun _ _ _ _ _ => (pe_dget2 hu (pv 4) (pv 8) pe_str (by constructor <;> rfl)))) rfl)
    (pss_cons (ps_fld (pv 0) (pe_dcT (own := [("one", 11)]) hr.units rfl nd (k_pi_list (pe_callB (cr_srtL hr.units) (by rfl) F.f_sorted bt_sorted (pa_cons (pv 7) pa_nil))) (blkOk_by (N := n_Program_init) (sc := defScope s_Program_init) (by decide +kernel)) (fun _ _ _ _ _ => (pg_name (i := 11) nd rfl (.inl rfl))) (fun _ _ _ _ _ => pts_nil) (fun _ _ _ _ _ => (pv 11)) (fun _ _ _ _ _ => (pe_tup (pa_cons (pe_ix k_ix_tup (pe_dget hu (pv 5) (pv 11) (fun _ _ => rfl)) pe_int (fun _ _ => rfl)) (pa_cons (pe_cal c_whole_rows hr (by decide) (by rfl) (pa_cons (pe_ix k_ix_tup (pe_dget hu (pv 5) (pv 11) (fun _ _ => rfl)) pe_int (fun _ _ => rfl)) (pa_cons (k_fld (pv 0) rfl) pa_nil))) pa_nil))))) rfl)
    (pss_one (ps_fld (pv 0) (pe_dc (own := [("state", 9)]) rfl nd (k_pi_list (pe_callB (call_sortedDI rfl) (by rfl) F.f_sorted bt_sorted (pa_cons (pv 6) pa_nil))) (blkOk_by (N := n_Program_init) (sc := defScope s_Program_init) (by decide +kernel)) (fun _ _ _ _ _ => (pg_name (i := 9) nd rfl (.inl rfl))) (fun _ _ _ _ _ => pts_nil) (fun _ _ _ _ _ => (pv 9)) (fun _ _ _ _ _ => (pe_cal c_joined hr (by decide) (by rfl) (pa_cons (pe_dget hu (pv 6) (pv 9) (fun _ _ => rfl)) pa_nil)))) rfl))))))))))))))))), ?_⟩
  obtain ⟨v1, v2, v3, v4, v5, v6, rfl, h1, h2, h3, h4, h5, h6⟩ := args6 tv
  have σe : start n_Program_init [.ref a, v1, v2, v3, v4, v5, v6] = [some (.ref a), some v1, some v2, some v3, some v4, some v5, some v6, none, none, none, none, none, none] := rfl
  rw [σe]
  have x1 : Ev (tVar 1) [some (.ref a), some v1, some v2, some v3, some v4, some v5, some v6, none, none, none, none, none, none] D (tyS (txt p.ls)) := ev_var rfl h1
  have x2 : Ev (tVar 2) [some (.ref a), some v1, some v2, some v3, some v4, some v5, some v6, none, none, none, none, none, none] D (tyI p.n) := ev_var rfl h2
  have x3 : Ev (tVar 3) [some (.ref a), some v1, some v2, some v3, some v4, some v5, some v6, none, none, none, none, none, none] D (tyNames p.regs) := ev_var rfl h3
  have hls := o.lsLen
  have hn := o.nLe
  have hrl := o.regsLen
  have sgl : signsOf (txt p.ls) = p.ls.map sign := by unfold signsOf; rw [txt_list]
  -- the letters
  refine sq_ifN (eb_not (b := true) (eb_B (ev_call (txt p.ls) ⟨by rw [txt_len]; omega, by rw [txt_len]; omega, fun c hc => o.lsOk c (by rw [txt_list] at hc; exact hc), by
    rw [sgl]
    exact List.Pairwise.map _ (fun a b h e => h (sign_inj e)) o.lsNd⟩ (ea_cons x1 ea_nil)))) g.dh fun D1 H1 g1 => ?_
  -- the states
  refine sq_ifN (eb_or (a := false) (b := false) (eb_not (b := true) (eb_B (ev_call (p.n : Int) True.intro (ea_cons (x2.up g1.d) ea_nil)))) fun _ => eb_not (b := true) (eb_test (ev_chain ev_c (x2.up g1.d) (fun _ => ev_c) (rv_le (decide_eq_true (by omega))) fun _ => rv_le (decide_eq_true (by omega))))) g1.dh fun D2 H2 g2 => ?_
  have gA := g1.trans g2
  -- the registers
  refine sq_ifN (eb_or (a := false) (b := false) (eb_not (b := true) (eb_B (ev_cb (ea_cons (x3.up gA.d) (ea_cons (ev_tup (ts := [tyV (.ty "list"), tyV (.ty "tuple")]) (ea_cons ev_c (ea_cons ev_c ea_nil))) ea_nil)) (rc_isiT (n := "list") is_lst (kitAny_cons (b := true) (r := true) (kit_ty (by decide +kernel)) (fun h => by cases h) (fun _ => rfl)))))) fun _ => eb_test (ev_op (ev_cb (ea_cons (x3.up gA.d) ea_nil) rc_lenL) ev_c (rv_gt (decide_eq_false (by rw [List.length_map]; omega))))) g2.dh fun D3 H3 g3 => ?_
  have gB := gA.trans g3
  refine sq_ifN (eb_or (a := false) (b := false) (eb_not (b := true) (eb_B (eb_allT (xs := p.regs) (ev_lcm (fun r => tyS r) _ (evi_list (x3.up gB.d)).i (by omega) fun r hr2 D4 k4 x hx => lcel rfl (ev_call r (o.regsOk r hr2) (ea_cons (ev_var (i := 8) rfl hx) ea_nil)))))) fun _ =>
    eb_test (ev_op (ev_lenSet (P := P) (w := w) (by omega) (x3.up gB.d)) (ev_cb (ea_cons (x3.up gB.d) ea_nil) rc_lenL) (rv_neI (by rw [dd_nodup o.regsNd, List.length_map]; simp)))) g3.dh fun D4 H4 g4 => ?_
  have gC := gB.trans g4
  -- the first contents
  have nl4 := nl.up gC.d
  refine sq_ifN (eb_or (a := false) (b := false) (eb_not (b := true) (eb_B (ev_isi (ev_var (i := 4) rfl ((tyHeld p.regs p.fst).up gC.d.q h4)) is_dK (by decide +kernel)))) fun _ => eb_not (b := true) (eb_B (eb_allT (xs := p.regs) ?_))) g4.dh fun D5 H5 g5 => ?_
  · refine ev_lockK nl4.k (pu_var (i := 4) rfl) ((tyHeld p.regs p.fst).up gC.d.q h4) fun D5 d od kvs kq ed pd hd hv => ?_
    have := evi_keys pd hd hv
    rw [List.map_map] at this
    refine ev_lcm (fun r => tyS r) _ this.i (by omega) fun r hrm D6 k6 x hx => lcel rfl (ev_is (t := tyB (true && true)) rfl (ev_andV (ev_op (ev_var (i := 8) rfl hx) (ev_var (i := 3) rfl ((tyNames p.regs).up ((gC.d.q.trans kq).trans k6.q) h3)) (rv_nmIn hrm)) fun _ => ?_))
    exact ev_call (p.fst r) ⟨by have := (o.fst r hrm).1; omega, (o.fst r hrm).2⟩ (ea_cons (ev_dget (k := .inr r) (ev_var (i := 4) rfl ((tyHeld p.regs p.fst).up ((gC.d.q.trans kq).trans k6.q) h4)) (ev_var (i := 8) rfl hx) (has_held hrm)) ea_nil)
  have gD := gC.trans g5
  have nl5 := nl.up gD.d
  have y1 : (tyS (txt p.ls)).p v1 D5 := (tyS (txt p.ls)).up gD.d.q h1
  have y2 : (tyI p.n).p v2 D5 := (tyI p.n).up gD.d.q h2
  have y3 := (tyNames p.regs).up gD.d.q h3
  have y4 := (tyHeld p.regs p.fst).up gD.d.q h4
  have y5 := (tySteps p).up gD.d.q h5
  have y6 := (tyEnds p).up gD.d.q h6
  -- the pairs that are due
  refine sq_asg (t := tyL ((due p).map fun x => tyKey (dkey x))) (ev_is (by rw [due_tys p fun x => tyKey (dkey x)]) (ev_lc2 (xs := sts p.n) (τ := tyI) (ys := fun _ => p.ls) (τ1 := fun _ c => tyS (sign c)) (out := fun s c => tyKey (dkey (s, c))) ?_ ?_ (fun x => rfl) (fun x y => rfl) (fun s hs D6 k6 x hx => ?_) fun s hs D6 k6 x hx c hc y hy => key_tup (x := (s, c)) (ev_var (i := 9) rfl hx) (ev_var (i := 10) rfl hy))) g5.dh fun vd D6 H6 g6 td => ?_
  · have := evi_range1 (ta := tCons (tVar 2) tNil) (n := p.n) (ea_cons (ev_var (i := 2) (σ := [some (.ref a), some v1, some v2, some v3, some v4, some v5, some v6, none, none, none, none, none, none]) rfl y2) ea_nil) (by omega)
    unfold sts
    rw [List.map_map]
    exact this.i
  · have := due_len o
    unfold due at this
    rw [List.length_flatMap] at this ⊢
    simp only [List.length_map] at this
    omega
  · have := evi_str (ev_var (i := 1) (σ := [some (.ref a), some v1, some v2, some v3, some v4, some v5, some v6, none, none, some x, none, none, none]) rfl ((tyS (txt p.ls)).up k6.q y1))
    rw [txt_list] at this
    exact this.i
  have gE := gD.trans g6
  have nl6 := nl.up gE.d
  have dl := due_len o
  have z2 := (tyI p.n).up g6.d.q y2
  have z3 := (tyNames p.regs).up g6.d.q y3
  have z4 := (tyHeld p.regs p.fst).up g6.d.q y4
  have z5 := (tySteps p).up g6.d.q y5
  have z6 := (tyEnds p).up g6.d.q y6
  have w5 : Ev (tVar 5) [some (.ref a), some v1, some v2, some v3, some v4, some v5, some v6, some vd, none, none, none, none, none] D6 (tySteps p) := ev_var rfl z5
  have w6 : Ev (tVar 6) [some (.ref a), some v1, some v2, some v3, some v4, some v5, some v6, some vd, none, none, none, none, none] D6 (tyEnds p) := ev_var rfl z6
  have w7 : Ev (tVar 7) [some (.ref a), some v1, some v2, some v3, some v4, some v5, some v6, some vd, none, none, none, none, none] D6 (tyL ((due p).map fun x => tyKey (dkey x))) := ev_var rfl td
  -- the steps
  refine sq_ifN (σ := [some (.ref a), some v1, some v2, some v3, some v4, some v5, some v6, some vd, none, none, none, none, none]) (eb_or (a := false) (b := false) (eb_not (b := true) (eb_B (ev_isiE nl6 w5))) fun _ => eb_or (a := false) (b := false) (eb_test (ev_op (ev_lenT nl6 w5) (ev_cb (ea_cons w7 ea_nil) rc_lenL) (rv_neI (by rw [List.length_map, List.length_map]; simp)))) fun _ =>
    eb_not (b := true) (eb_B (eb_allT (xs := due p) (ev_lcm (fun x => tyKey (dkey x)) _ (evi_list w7).i (by omega) fun x hx D7 k7 v hv => lcel rfl (ev_dinT (k := dkey x) (ev_var (i := 5) rfl ((tySteps p).up k7.q z5)) (ev_var (i := 11) rfl hv) (.inl ⟨rfl, _, tys_step hx⟩)))))) g6.dh fun D7 H7 g7 => ?_
  have nl7 := nl6.up g7.d
  refine sq_ifN (σ := [some (.ref a), some v1, some v2, some v3, some v4, some v5, some v6, some vd, none, none, none, none, none]) (eb_not (b := true) (eb_B (eb_allT (xs := due p) (ev_lcm (fun x => tyKey (dkey x)) _ (evi_list (w7.up g7.d)).i (by omega) fun x hx D8 k8 v hv => lcel rfl
    (ev_callN ((p.goal x.1 x.2, p.row x.1 x.2), (p.n : Int), p.regs) ⟨show p.regs.length ≤ 100 by omega, o.goal x hx, fun r hr => (o.row x hx r hr).2⟩ (nl7.up k8) (ea_cons (ev_dgetT (k := dkey x) (ev_var (i := 5) rfl ((tySteps p).up (g7.d.trans k8).q z5)) (ev_var (i := 11) rfl hv) (tys_step hx)) (ea_cons (ev_var (i := 2) rfl ((tyI p.n).up (g7.d.trans k8).q z2)) (ea_cons (ev_var (i := 3) rfl ((tyNames p.regs).up (g7.d.trans k8).q z3)) ea_nil)))))))) g7.dh fun D8 H8 g8 => ?_
  have gF := g7.trans g8
  have nl8 := nl6.up gF.d
  have el := ens_len o
  -- the ends
  refine sq_ifN (σ := [some (.ref a), some v1, some v2, some v3, some v4, some v5, some v6, some vd, none, none, none, none, none]) (eb_or (a := false) (b := false) (eb_not (b := true) (eb_B (ev_isi (w6.up gF.d) is_dK (by decide +kernel)))) fun _ => eb_not (b := true) (eb_B (eb_allT (xs := ens p) ?_))) g8.dh fun D9 H9 g9 => ?_
  · refine ev_lockK nl8.k (pu_var (i := 6) rfl) ((tyEnds p).up gF.d.q z6) fun D9 d od kvs kq ed pd hd hv => ?_
    have := evi_keys pd hd hv
    rw [List.map_map] at this
    refine ev_lcm (fun s => tyI s) _ this.i (by omega) fun s hs D10 k10 x hx => lcel rfl (ev_is (t := tyB (true && true)) rfl (ev_andV (ev_call s True.intro (ea_cons (ev_var (i := 11) rfl hx) ea_nil)) fun _ => ?_))
    have hb := sts_mem.mp (List.mem_filter.mp hs).1
    exact ev_chain ev_c (ev_var (i := 11) rfl hx) (fun _ => ev_var (i := 2) rfl ((tyI p.n).up ((gF.d.q.trans kq).trans k10.q) z2)) (rv_le (decide_eq_true hb.1)) fun _ => rv_lt (decide_eq_true hb.2)
  have gG := gF.trans g9
  have nl9 := nl6.up gG.d
  refine sq_ifN (σ := [some (.ref a), some v1, some v2, some v3, some v4, some v5, some v6, some vd, none, none, none, none, none]) (eb_not (b := true) (eb_B (eb_allT (xs := ens p) ?_))) g9.dh fun D10 H10 g10 => ?_
  · refine ev_lockK nl9.k (pu_var (i := 6) rfl) ((tyEnds p).up gG.d.q z6) fun D10 d od kvs kq ed pd hd hv => ?_
    have := evi_vals pd hd hv
    rw [List.map_map] at this
    exact ev_lcm (fun s => tyRow (enr p s)) _ this.i (by omega) fun s hs D11 k11 x hx => lcel rfl (ev_call (enr p s, p.regs) (o.en s hs).2 (ea_cons (ev_var (i := 12) rfl hx) (ea_cons (ev_var (i := 3) rfl ((tyNames p.regs).up ((gG.d.q.trans kq).trans k11.q) z3)) ea_nil)))
  -- self's fields
  have gH := gG.trans g10
  have gI := g.trans (gE.trans gH)
  have cI := cL.grow (x := .ins (CP K) dx []) True.intro (gE.trans gH)
  have u1 := (tyS (txt p.ls)).up (g6.trans gH).d.q y1
  have u2 := (tyI p.n).up gH.d.q z2
  have u3 := (tyNames p.regs).up gH.d.q z3
  have u4 := (tyHeld p.regs p.fst).up gH.d.q z4
  have u5 := (tySteps p).up gH.d.q z5
  have u6 := (tyEnds p).up gH.d.q z6
  have u7 := (tyL ((due p).map fun x => tyKey (dkey x))).up gH.d.q td
  clear z2 z3 z4 z5 z6 y1 y2 y3 y4 y5 y6 w5 w6 w7 nl6 nl7 nl8 nl9 nl4 nl5 gF gG gD gC gB gA
  refine sq_fld (t := tyS (txt p.ls)) (σ := [some (.ref a), some v1, some v2, some v3, some v4, some v5, some v6, some vd, none, none, none, none, none]) rfl cI (Ev.at_ (ev_is (by rw [glue_ls o]) (ev_join (ys := p.ls.map sign) (ev_is (by rw [txt_list, srt_ls o, List.map_map]; rfl) (ev_cb (ea_cons (ev_var (i := 1) rfl u1) ea_nil) (rc_sortS (by rw [txt_len]; omega)))) ?_)) gI.dh) gI h0 .nil F.cls_Program F.no_Program_letters (by decide) (by simp) fun w1 D11 H11 k11 g11 c11 kv11 => ?_
  · rcases o.ls with h | h <;> rw [h] <;> decide +kernel
  refine sq_fld (t := tyI p.n) (σ := [some (.ref a), some v1, some v2, some v3, some v4, some v5, some v6, some vd, none, none, none, none, none]) rfl c11 (Ev.at_ (ev_var (i := 2) rfl ((tyI p.n).up k11.q u2)) g11.dh) g11 h0 kv11 F.cls_Program F.no_Program_states (by simp) (show ("states" : Str) ∉ [("letters" : Str)] from by decide +kernel) fun w2 D12 H12 k12 g12 c12 kv12 => ?_
  have k12' := k11.trans k12
  refine sq_fld (t := tyNames p.regs) (σ := [some (.ref a), some v1, some v2, some v3, some v4, some v5, some v6, some vd, none, none, none, none, none]) rfl c12 (Ev.at_ (ev_is (by rw [srt_regs o]) (ev_cb (ea_cons (ev_var (i := 3) rfl ((tyNames p.regs).up k12'.q u3)) ea_nil) (rc_srtStrs (by omega)))) g12.dh) g12 h0 kv12 F.cls_Program F.no_Program_registers (by simp) (show ("registers" : Str) ∉ [("letters" : Str), "states"] from by decide +kernel) fun w3 D13 H13 k13 g13 c13 kv13 => ?_
  have k13' := k12'.trans k13
  have hreg : Has (κ := Str) [(("letters" : Str), tyS (txt p.ls)), ("states", tyI p.n), ("registers", tyNames p.regs)] ("registers" : Str) (tyNames p.regs) := rfl
  refine sq_fld (t := tyHeld p.regs p.fst) (σ := [some (.ref a), some v1, some v2, some v3, some v4, some v5, some v6, some vd, none, none, none, none, none]) rfl c13 (dc_at (fun r => tyS r) (fun r => .inr r) (fun r => tyS (p.fst r)) (list_at (self_fld rfl c13 g13.dh kv13 F.cls_Program F.no_Program_registers hreg)) (List.Pairwise.map _ (fun a b h e => h (Sum.inr.inj e)) o.regsNd) (by omega) fun r hrm D14 H14 g14 x hx => dcel_at rfl (Ev.at_ (ev_var (i := 8) rfl hx) g14.dh) fun D15 H15 g15 =>
    Ev.at_ (ev_dget2 (k := .inr r) (ev_var (i := 4) rfl ((tyHeld p.regs p.fst).up (k13'.trans (g14.d.trans g15.d)).q u4)) (ev_var (i := 8) rfl ((tyS r).up g15.d.q hx)) ev_c (.inl (has_held hrm))) g15.dh) g13 h0 kv13 F.cls_Program F.no_Program_firsts (by simp) (show ("firsts" : Str) ∉ [("letters" : Str), "states", "registers"] from by decide +kernel) fun w4 D16 H16 k16 g16 c16 kv16 => ?_
  have k16' := k13'.trans k16
  have hreg2 : Has (κ := Str) [(("letters" : Str), tyS (txt p.ls)), ("states", tyI p.n), ("registers", tyNames p.regs), ("firsts", tyHeld p.regs p.fst)] ("registers" : Str) (tyNames p.regs) := rfl
  have dl2 : (due p).length ≤ 100000 := by omega
  refine sq_fld (t := tySteps (normP p)) (σ := [some (.ref a), some v1, some v2, some v3, some v4, some v5, some v6, some vd, none, none, none, none, none]) rfl c16 (dcT_at (xs := due p) (fun x => tyKey (dkey x)) dkey (fun x => tyStep p.regs (p.goal x.1 x.2, fun r => joinR (p.row x.1 x.2 r))) (EvI.at_ (evi_list (ev_is (by rw [srt_due o]) (ev_cb (ea_cons (ev_var (i := 7) rfl ((tyL ((due p).map fun x => tyKey (dkey x))).up k16'.q u7)) ea_nil) (rc_sortL (enc := dDue) dp_key (AllAlike.of fun _ _ => rfl) (Sortable.tuples fun x => ⟨_, _, rfl⟩) dl2 fun x _ => (show 1 ≤ 8 by decide))))).i g16.dh) (keys_nd o) dl2 fun x hx D17 H17 g17 v hv =>
    dgel_at rfl (Ev.at_ (ev_var (i := 11) rfl hv) g17.dh) fun D18 H18 g18 => ?_) g16 h0 kv16 F.cls_Program F.no_Program_steps (by simp) (show ("steps" : Str) ∉ [("letters" : Str), "states", "registers", "firsts"] from by decide +kernel) fun w5 D20 H20 k20 g20 c20 kv20 => ?_
  · intro Q2 q2
    have gx := g17.trans g18
    have xs5 : Ev (tDGet (tVar 5) (tVar 11)) [some (.ref a), some v1, some v2, some v3, some v4, some v5, some v6, some vd, none, none, none, some v, none] D18 (tyStep p.regs (p.goal x.1 x.2, p.row x.1 x.2)) := ev_dgetT (k := dkey x) (ev_var (i := 5) rfl ((tySteps p).up (k16'.trans gx.d).q u5)) (ev_var (i := 11) rfl ((tyKey (dkey x)).up g18.d.q hv)) (tys_step hx)
    refine (ev_op xs5 ev_c (rv_ixT (K := K) (i := 0) rfl)).use gx.dh fun r1 D19 H19 g19 t1 => ?_
    refine (ev_op (xs5.up g19.d) ev_c (rv_ixT (K := K) (i := 1) rfl)).use g19.dh fun r2 D21 H21 g21 t2 => ?_
    have gy := gx.trans (g19.trans g21)
    have c21 := c16.grow (x := .ins (CP K) dx _) True.intro gy
    refine self_fld (σ := [some (.ref a), some v1, some v2, some v3, some v4, some v5, some v6, some vd, none, none, none, some v, none]) rfl c21 gy.dh (KvsAt.up gy.d.q kv16) F.cls_Program F.no_Program_registers hreg2 _ fun r3 D22 H22 g22 t3 => ?_
    refine ⟨(p.row x.1 x.2, p.regs), D22, ⟨show p.regs.length ≤ 100 by omega, o.regsNd, fun r hrm => (o.row x hx r hrm).2⟩, g22.dh, .cons ((tyRows p.regs _).up g22.d.q t2) (.cons t3 .nil), fun v4 D23 H23 g23 t4 => ?_⟩
    refine ⟨by show 2 ≤ _; decide, fun l hl => q2 (.ref l) _ _ ((g19.trans (g21.trans (g22.trans g23))).add hl (.inl True.intro)) ⟨l, _, rfl, upd_same, TysAt.up (Kp.new (g23.dh.dom hl) (nofz_of (.inl (show Fixd (.tup _) from True.intro)))).q (.cons ?_ (.cons t4 .nil))⟩⟩
    exact (tyI _).up (g21.trans (g22.trans g23)).d.q t1
  have k20' := k16'.trans k20
  have kvF : KvsAt (pgFields (normP p)).dropLast _ _ := kv20
  refine st_fld (t := tyEnds (normP p)) (σ := [some (.ref a), some v1, some v2, some v3, some v4, some v5, some v6, some vd, none, none, none, none, none]) rfl c20 (Ev.at_ (ev_is ?_ (ev_dc (fun s => tyI s) (fun s => .inl s) (fun s => tyRow (joinR (enr p s))) (evi_list (ev_cb (ea_cons (ev_var (i := 6) rfl ((tyEnds p).up k20'.q u6)) ea_nil) (rc_srtDI (ens_sorted p) (by omega)))).i (List.Pairwise.map _ (fun a b h e => h (Sum.inl.inj e)) (ens_nd p)) (by omega) fun s hs D24 k24 x hx => dcel rfl (ev_var (i := 9) rfl hx)
    (ev_call (enr p s) ⟨(o.en s hs).2.1, fun i hi => ((o.en s hs).2.2 i hi).1.ok⟩ (ea_cons (ev_dget (k := .inl s) (ev_var (i := 6) rfl ((tyEnds p).up (k20'.trans k24).q u6)) (ev_var (i := 9) rfl hx) (tys_end hs)) ea_nil)))) g20.dh) g20 h0 kv20 F.cls_Program F.no_Program_ends (by simp) (show ("ends" : Str) ∉ [("letters" : Str), "states", "registers", "firsts", "steps"] from by decide +kernel) fun w6 D25 H25 k25 g25 c25 kv25 => ?_
  · show tyD _ = tyD _
    rw [ens_norm]
    congr 1
    exact List.map_congr_left fun s hs => by rw [enr_norm hs]
  · exact q D25 H25 _ g25 c25 kv25
end
end K02
set_option Elab.async false
set_option linter.all false
set_option maxRecDepth 100000
set_option maxHeartbeats 4000000
/-! for i, c in enumerate(a text). -/
namespace K02
open PySem PySem.Spec PyProof.Rows L2
def IteS (z : Str) : It := ⟨fun i _ => i < z.cps.size, fun i H v H' => ∃ T c, z.cps[i]? = some c ∧ v = .ref T ∧ H T = none ∧ H' = upd H T (.tup [.int (i : Nat), .str (sign c)]), fun i _ => i = z.cps.size⟩
theorem turn_enumS {P : Program} {w : World} {K : PySem.W.Frag} {elts : List Expr} {kk : Nat} {tpos : Pos} (e it : Addr) (z : Str) (t : Tok) :
    Turn P w K (.Tuple elts kk tpos) (IteS z) [e, it] e (fun i h => (∃ old, IsEnum h e it ((i : Nat) : Int) old) ∧ h.IsStrIter it (strIterType z) z t i ∧ e ≠ it) where
  mem := by simp
  obj := fun i h st b hb => by
    obtain ⟨⟨old, he⟩, ⟨o, ho, hc, hd⟩, _⟩ := st
    rcases (show b = e ∨ b = it by simpa using hb) with c | c
    · rw [c]; exact ⟨_, he, fun v q => nomatch q⟩
    · rw [c]; exact ⟨o, ho, fun v q => by rw [hd] at q; cases q⟩
  keep := fun i h h' st k => let ⟨⟨old, he⟩, ⟨o, ho, r⟩, hne⟩ := st; ⟨⟨old, k e (by simp) _ he⟩, ⟨o, k it (by simp) o ho, r⟩, hne⟩
  item := by
    intro X hP hw hK hc i pins s σ H E I hf st hg
    subst hP hw hK
    obtain ⟨⟨old, he⟩, hit, hne⟩ := st
    have hel : e < s.heap.objs.size := Heap.lt_size he
    have hil : it < s.heap.objs.size := by obtain ⟨_, q, _⟩ := hit; exact Heap.lt_size q
    have Dr : Draws X.prog X.w X.A.in1 it [it] z.cps.size (SignAt z) (fun i h => h.IsStrIter it (strIterType z) z t i) := by
      unfold strIterType
      split
      · exact Draws.strAscii (A := X.A.in1) (show X.A.in1.handled = none from I.ok.hd hc) it z t
      · exact Draws.strWide (A := X.A.in1) (show X.A.in1.handled = none from I.ok.hd hc) it z t
    refine wpAny_pyNext_enum_itemD Dr he hit hg hne (by simpa using hne) fun x h' tk hx ho hit' hT hsz hk => ?_
    obtain ⟨c, u, hcx, rfl⟩ := hx
    refine ⟨_, rfl, wpAny_letOwnedTupleGo_enum (s := { s with heap := h', toks := tk + 1 }) ho fun h'' he' sb => ?_⟩
    have hT2 : h''.get? s.heap.objs.size = some { cls := .type "tuple", data := .seq #[.int i tk, .str ⟨#[c]⟩ u] } := (sb.2 _ (Nat.ne_of_gt hel)).trans hT
    have new : ObjOk X.prog X.w (upd H s.heap.objs.size (.tup [.int (i : Nat), .str (sign c)])) h'' s.heap.objs.size (.tup [.int (i : Nat), .str (sign c)]) :=
      ⟨by show 2 ≤ sizeLine; decide, [.int i tk, .str ⟨#[c]⟩ u], .cons ⟨_, rfl⟩ (.cons ⟨_, rfl⟩ .nil), ⟨_, hT2, rfl, _, rfl⟩⟩
    have I1 : Inv X pins σ (upd H s.heap.objs.size (.tup [.int (i : Nat), .str (sign c)])) { s with heap := h'', toks := tk + 1 } :=
      I.turnedNew (ch := [e, it]) (fun b ob hb q => (sb.2 b (fun z => hb (by simp [z]))).trans (hk b ob (fun z => hb (by simp [z])) (fun z => hb (by simp [z])) q)) hf (Nat.le_refl _) new
    refine ⟨.ref s.heap.objs.size, _, I1, rfl, ⟨_, c, hcx, rfl, I.hok.fresh (Nat.le_refl _), rfl⟩, ⟨⟨.str ⟨#[c]⟩ u, ?_⟩, ?_, hne⟩, fun b hb => ?_⟩
    · have e1 : ((i + 1 : Nat) : Int) = (i : Int) + 1 := by omega
      rw [e1]; exact he'
    · obtain ⟨o, ho2, r⟩ := hit'
      exact ⟨o, (sb.2 it (Ne.symm hne)).trans ho2, r⟩
    · have hb' : b < s.heap.objs.size := by
        rcases (show b = e ∨ b = it by simpa using hb) with c | c
        · rw [c]; exact hel
        · rw [c]; exact hil
      rw [upd_ne (Nat.ne_of_lt hb')]
      exact (hf b hb).1
  done := by
    intro X hP hw hK hc i pins s σ H E I hf st hg
    subst hP hw hK
    obtain ⟨⟨old, he⟩, hit, hne⟩ := st
    obtain ⟨f0, f1, f2, f3, f4, f5⟩ := hf it (by simp)
    have Dr : Draws X.prog X.w X.A.in1 it [it] z.cps.size (SignAt z) (fun i h => h.IsStrIter it (strIterType z) z t i) := by
      unfold strIterType
      split
      · exact Draws.strAscii (A := X.A.in1) (show X.A.in1.handled = none from I.ok.hd hc) it z t
      · exact Draws.strWide (A := X.A.in1) (show X.A.in1.handled = none from I.ok.hd hc) it z t
    have hi : i = z.cps.size := hg
    subst hi
    exact wpAny_pyNext_enum_endD Dr he hit fun h' eb => ⟨rfl, I.turned (t' := s.toks) (fun b o hb q => eb b o hb q) f0 f1 f3 f4 f5⟩
  self := fun A i s Q E st h => let ⟨⟨_, he⟩, _⟩ := st; wpAny_pyIter_enum he h
def iEnumS (ta : TA) : TI := fun σ H R => ta σ H fun vs H1 => ∃ z : Str, vs = [.str z] ∧ R (IteS z) H1
theorem pi_enumS {X : Cx} {e : Expr} {ta : TA} {p pos tpos : Pos} {elts : List Expr} {kk : Nat} (hg : Gl X "enumerate") (hm : X.mg "enumerate" = none) (ha : PA X [e] ta) (hs : starEach [e] X.env = [(false, eval e X.env)] := by rfl) :
    PI X (.Tuple elts kk tpos) (.Call (.Name "enumerate" p) [e] [] pos) (iEnumS ta) := by
  refine ⟨fun pins s σ H R I h => ?_⟩
  refine Call_ (ld_blt I hg hm boot_enumerate (PyProof.Rows.callWith_type1 (thn (ha.run pos pins s σ H _ I h) fun us s1 ⟨vs, H1, I1, r1, q1⟩ => ?_) hs rfl))
  obtain ⟨z, rfl, q⟩ := q1
  obtain ⟨u, rfl, t, rfl⟩ := vals1 r1
  refine call_enumerate_str fun h' he hit hsz hk => wpAny_pyIter_enum he ?_
  have I2 : Inv X pins σ H1 { s1 with heap := h' } := I1.kept (t' := s1.toks) hk
  refine ⟨s1.heap.objs.size + 1, [s1.heap.objs.size + 1, s1.heap.objs.size], _, _, H1, rfl, I2, turn_enumS (s1.heap.objs.size + 1) s1.heap.objs.size z t, ⟨⟨.none, he⟩, hit, Nat.succ_ne_self _⟩, fun b hb => ?_, q⟩
  have e' : b = s1.heap.objs.size + 1 ∨ b = s1.heap.objs.size := by simpa using hb
  have hle : s1.heap.objs.size ≤ b := by
    rcases e' with z | z
    · rw [z]; exact Nat.le_add_right _ _
    · rw [z]; exact Nat.le_refl _
  exact I1.fpOk hle (I1.hok.fresh hle)
theorem evi_enumS {σ : Sl} {D : Hp} {te : TE} {z : Str} (e : Ev te σ D (tyS z)) : EvI (iEnumS (tCons te tNil)) σ D ((List.range z.cps.toList.length).map fun i => tyT [tyI (i : Nat), ⟨fun v _ => ∃ c, z.cps.toList[i]? = some c ∧ v = .str (sign c), fun _ h => h⟩]) := fun D1 H k h R q => (ea_cons e ea_nil) D1 H k h _ fun xs D2 H2 g2 tx => by
  obtain ⟨v, rfl, hv⟩ := args1 tx
  have hv : v = .str z := hv
  subst hv
  refine ⟨z, rfl, q _ D2 H2 g2 ⟨fun i H3 k3 hi => ?_, fun H3 k3 => ?_, fun i t D3 H3 y H4 k3 h3 e y4 => ?_⟩⟩
  · rw [List.length_map, List.length_range] at hi
    show i < z.cps.size
    simpa using hi
  · rw [List.length_map, List.length_range]
    show _ = z.cps.size
    simp
  · obtain ⟨T, c, hc, rfl, hT, rfl⟩ := y4
    rw [List.getElem?_map] at e
    cases hr : (List.range z.cps.toList.length)[i]? with
    | none => rw [hr] at e; cases e
    | some j =>
      rw [hr] at e
      cases e
      obtain ⟨hi, ej⟩ := List.getElem?_eq_some_iff.mp hr
      rw [List.getElem_range] at ej
      subst ej
      exact ⟨upd D3 T (.tup [.int (i : Nat), .str (sign c)]), (Grow.refl h3).add hT (.inl True.intro), T, _, rfl, upd_same, .cons rfl (.cons ⟨c, by rw [Array.getElem?_toList]; exact hc, rfl⟩ .nil)⟩
end K02
set_option Elab.async false
set_option linter.all false
set_option maxRecDepth 100000
set_option maxHeartbeats 8000000
namespace K02
open PySem PySem.Spec PyProof.Rows L2 PySem.W
section
variable {P : Program} {w : World} {K : PySem.W.Frag} {mg : Str → Option Value} {base : Heap}
variable {σ : Sl} {D D' H : Hp} {te ta tk tv : TE} {t u z : Ty} {ts : List Ty} {C : Addr} {fts : List (Str × Ty)} {m : Str}
/-! ### method calls -/
theorem mth_look {fs : List (Str × V)} (kv : KvsAt fts fs D) (h : m ∉ fts.map (·.1)) : fs.lookup m = none := by
  have h2 : m ∉ fs.map (·.1) := by rw [kv.keys]; exact h
  clear kv h
  induction fs with
  | nil => rfl
  | cons p r ih =>
    obtain ⟨a, b⟩ := p
    rw [List.map_cons, List.mem_cons, not_or] at h2
    rw [List.lookup_cons, beq_false_of_ne h2.1]
    exact ih h2.2
theorem ev_meth {α : Type} {A : α → List Ty} {B : α → Ty} {Cn : α → Prop} {E : XK} {t : TA} (x : α) (c : Cn x) (hA : A x = tyO C fts :: ts) (hm : m ∉ fts.map (·.1)) (e : Ev ta σ D (tyO C fts)) (ea : EvA t σ D ts) : Ev (tMeth C m (SpF A B Cn) [] E ta t) σ D (B x) := fun D1 H k h Q q =>
  e D1 H k h _ fun v D2 H2 g2 tv => by
    obtain ⟨a, dx, fs, rfl, ha, kv⟩ := tv
    refine ⟨a, dx, fs, rfl, g2.dh.q.fx (u := .ins C dx fs) True.intro ha, mth_look kv hm, ea D2 H2 (k.trans g2.d) g2.dh _ fun vs D3 H3 g3 tvs => ?_⟩
    rw [List.append_nil]
    exact ⟨x, D3, c, g3.dh, by rw [hA]; exact .cons ⟨a, dx, fs, rfl, g3.d.q.fx (u := .ins C dx fs) True.intro ha, KvsAt.up g3.d.q kv⟩ tvs, fun v D4 H4 g4 tb => q v D4 H4 ((g2.trans g3).trans g4) tb⟩
theorem ev_methN {α : Type} {A : α → List Ty} {B : α → Ty} {Cn : α → Prop} {E : XK} {t : TA} (x : α) (c : Cn x) (n : NoLk D) (hA : A x = tyO C fts :: ts) (hm : m ∉ fts.map (·.1)) (e : Ev ta σ D (tyO C fts)) (ea : EvA t σ D ts) : Ev (tMeth C m (SpN A B Cn) [] E ta t) σ D (B x) := fun D1 H k h Q q =>
  e D1 H k h _ fun v D2 H2 g2 tv => by
    obtain ⟨a, dx, fs, rfl, ha, kv⟩ := tv
    refine ⟨a, dx, fs, rfl, g2.dh.q.fx (u := .ins C dx fs) True.intro ha, mth_look kv hm, ea D2 H2 (k.trans g2.d) g2.dh _ fun vs D3 H3 g3 tvs => ?_⟩
    rw [List.append_nil]
    exact ⟨x, D3, c, n.up ((k.trans g2.d).trans g3.d), g3.dh, by rw [hA]; exact .cons ⟨a, dx, fs, rfl, g3.d.q.fx (u := .ins C dx fs) True.intro ha, KvsAt.up g3.d.q kv⟩ tvs, fun v D4 H4 g4 tb => q v D4 H4 ((g2.trans g3).trans g4) tb⟩
theorem sq_asgG {E : Ends} {g : TG} {b : TS} (e : Ev te σ D t) (k : Kp D H) (h : ∀ v D1 H1, Grow D H D1 H1 → t.p v D1 → g v σ H1 (b E)) : tSeq (tAsg te g) b E σ H := e.use k h
theorem st_asgG {E : Ends} {g : TG} (e : Ev te σ D t) (k : Kp D H) (h : ∀ v D1 H1, Grow D H D1 H1 → t.p v D1 → g v σ H1 E.nx) : tAsg te g E σ H := e.use k h
/-- a comprehension's pair of targets -/
theorem dcel_2 {i j : Nat} {vs : List Nat} {x ky : V} {t1 t2 : Ty} (hx : (tyT [t1, t2]).p x D) (hw : ∀ a b, wipe (((wipe σ vs).set i (some a)).set j (some b)) vs = wipe σ vs)
    (e : ∀ a b, t1.p a D → t2.p b D → Ev tk (((wipe σ vs).set i (some a)).set j (some b)) D (tyV ky) ∧ Ev tv (((wipe σ vs).set i (some a)).set j (some b)) D t) : DcEl (gTup K 2 (gCons (gName i) (gCons (gName j) gNil))) tk tv vs σ D x ky t := fun H1 h1 QY QN q =>
  ga_2 h1 hx fun a b ta tb => ⟨hw a b, iteT (B := QN H1) ((e a b ta tb).1.use h1 fun y D2 H2 g2 hy => ((e a b ta tb).2.up g2.d).use g2.dh fun z D3 H3 g3 tz => by
    have hy : y = ky := hy
    rw [hy]
    exact q z D3 H3 (g2.trans g3) tz)⟩
/-- dict(d) -/
theorem rc_dictD {kts : List (Key × Ty)} : RC (fun xs H Q => ∃ (a : Addr) (kvs : List (Key × V)), xs = [.ref a] ∧ Rd H a (.dK kvs) ∧ ∀ p, H p = none → Q (.ref p) (upd H p (.dK kvs))) [tyD kts] (tyD kts) := fun xs D H k h Q q => by
  obtain ⟨v, rfl, a, kvs, rfl, ha, kv⟩ := args1 h
  exact ⟨a, kvs, rfl, k.q.sf (u := .dK kvs) True.intro ha, fun p hp => q (.ref p) _ _ ((Grow.refl k).add (u := .dK kvs) hp (.inr True.intro)) ⟨p, kvs, rfl, .inl upd_same, KvsAt.up (Kp.new (k.dom hp) nf_dK).q kv⟩⟩

/-! ### reading a text -/
def runS (p : Pg) (s : Int) (cs : List Nat) : Int := cs.foldl p.goal s
def stepG (p : Pg) (s : Int) (c : Nat) (g : Str → Str) : Str → Str := fun r => textR g (p.row s c r)
def holdS (p : Pg) : Int → (Str → Str) → List Nat → (Str → Str)
  | _, g, [] => g
  | s, g, c :: cs => holdS p (p.goal s c) (stepG p s c g) cs
theorem run_app (p : Pg) (s : Int) (cs : List Nat) (c : Nat) : runS p s (cs ++ [c]) = p.goal (runS p s cs) c := by
  unfold runS
  rw [List.foldl_append]
  rfl
theorem hold_app (p : Pg) : ∀ (s : Int) (g : Str → Str) (cs : List Nat) (c : Nat), holdS p s g (cs ++ [c]) = stepG p (runS p s cs) c (holdS p s g cs)
  | _, _, [], _ => rfl
  | s, g, d :: cs, c => hold_app p (p.goal s d) (stepG p s d g) cs c
theorem run_ok {p : Pg} (o : PgOk p) {s : Int} (hs : 0 ≤ s ∧ s < p.n) : ∀ {cs : List Nat}, (∀ c ∈ cs, c ∈ p.ls) → 0 ≤ runS p s cs ∧ runS p s cs < p.n := by
  intro cs
  induction cs generalizing s with
  | nil => intro _; exact hs
  | cons c cs ih => intro h; exact ih (o.goal (s, c) (due_mem.mpr ⟨hs, h c List.mem_cons_self⟩)) fun d hd => h d (List.mem_cons_of_mem _ hd)
theorem glue_len (ys : List Str) : (glue ys).length ≤ (ys.map (·.length)).sum := by
  have e0 : glue ys = Str.join Str.empty ys := StrLaws.glued_eq_join Str.empty ys
  rw [e0]
  have := StrLaws.join_length_le Str.empty ys
  have e : Str.empty.length = 0 := rfl
  rw [e] at this
  omega
theorem row_sum {g : Str → Str} {row : List Item} {z : Nat} (hz : 100 ≤ z) (h : ∀ i ∈ row, sgItem i) (hg : ∀ r, .inr r ∈ row → (g r).length ≤ z) : ((row.map (itemS g)).map (·.length)).sum ≤ row.length * z := by
  induction row with
  | nil => exact Nat.zero_le _
  | cons i r ih =>
    have := ih (fun j hj => h j (List.mem_cons_of_mem _ hj)) fun s hs => hg s (List.mem_cons_of_mem _ hs)
    rw [List.map_cons, List.map_cons, List.sum_cons, List.length_cons, Nat.succ_mul]
    have h1 : (itemS g i).length ≤ z := by
      cases i with
      | inl s => exact Nat.le_trans (h _ List.mem_cons_self).1 hz
      | inr r => exact hg r List.mem_cons_self
    omega
theorem hold_len {p : Pg} (o : PgOk p) : ∀ {cs : List Nat} {s : Int} {g : Str → Str} {z : Nat}, (0 ≤ s ∧ s < p.n) → (∀ c ∈ cs, c ∈ p.ls) → 100 ≤ z → (∀ r ∈ p.regs, (g r).length ≤ z) → ∀ r ∈ p.regs, (holdS p s g cs r).length ≤ z * 5 ^ cs.length
  | [], _, _, _, _, _, _, hg => fun r hr => by simpa [holdS] using hg r hr
  | c :: cs, s, g, z, hs, hc, hz, hg => fun r hr => by
    have hd : (s, c) ∈ due p := due_mem.mpr ⟨hs, hc c List.mem_cons_self⟩
    have := hold_len o (cs := cs) (s := p.goal s c) (g := stepG p s c g) (z := z * 5) (o.goal _ hd) (fun d h => hc d (List.mem_cons_of_mem _ h)) (by omega) (fun r2 hr2 => by
      have h1 : (p.row s c r2).length ≤ 5 ∧ RowOk p.regs (p.row s c r2) := o.row _ hd r2 hr2
      have h2 := row_sum hz (fun i hi => (h1.2.2 i hi).1) fun r3 h3 => hg r3 ((h1.2.2 _ h3).2 r3 rfl)
      have h3 := glue_len ((p.row s c r2).map (itemS g))
      have h4 : (p.row s c r2).length * z ≤ 5 * z := Nat.mul_le_mul_right z h1.1
      show (glue _).length ≤ _
      omega) r hr
    rw [List.length_cons, Nat.pow_succ]
    have e : z * (5 ^ cs.length * 5) = z * 5 * 5 ^ cs.length := by rw [Nat.mul_comm (5 ^ cs.length) 5, Nat.mul_assoc]
    rw [e]
    exact this
abbrev sp_Program_check (K : PySem.W.Frag) : Sp := SpF (fun x : Pg × List Nat => [tyProg K x.1, tyS (txt x.2)]) (fun _ => tyV .non) (fun x => ∀ c ∈ x.2, c ∈ x.1.ls)
theorem cal_Program_check (F : Fc K mg) : Met P w K mg base 1 (CP K) "check" (sp_Program_check K) := mk_Program_check F (fun _ _ _ _ h => SpF.len (n := 2) (fun _ => rfl) h) fun f cdv A outer s H vs Q E hr h => by
  have nd := sc_Program_check.nd
  obtain ⟨⟨p, cs⟩, D, hc, k, tv, q⟩ := h
  dsimp only at hc tv q
  refine ⟨_, (pss_cons (ps_if (pt_not (pt_val (pe_callB k_isi (by rfl) F.f_isinstance bt_isinstance (pa_cons (pv 1) (pa_cons (pe_bltn (v := .ty "str") (by rfl) F.f_str bt_str rfl) pa_nil))))) (pss_one ps_never) pss_nil)
    (pss_one (ps_for PassesOwn.never rfl (pi_enumS (by rfl) F.f_enumerate (pa_cons (pv 1) pa_nil)) (k_pg_tup (n := 2) rfl (pgs_cons (pg_name (i := 2) nd rfl (.inl rfl)) (pgs_cons (pg_name (i := 3) nd rfl (.inl rfl)) pgs_nil))) (pss_one (ps_if (pt_cmpR op_notIn_sign (pv 3) (k_fld (pv 0) rfl) rfl) (pss_one ps_never) pss_nil))))), ?_⟩
  obtain ⟨v0, v1, rfl, h0, h1⟩ := args2 tv
  have x1 : Ev (tVar 1) (start n_Program_check [v0, v1]) D (tyS (txt cs)) := ev_var rfl h1
  refine sq_ifN (eb_not (b := true) (eb_B (ev_isi x1 is_str (by decide +kernel)))) k fun D1 H1 g1 => ?_
  refine st_for (xs := List.range (txt cs).cps.toList.length) (D := D1) (D0 := D) (H0 := H) (fun i => tyT [tyI (i : Nat), ⟨fun v _ => ∃ c, (txt cs).cps.toList[i]? = some c ∧ v = .str (sign c), fun _ h => h⟩]) (fun i s D H => ∃ a b, s = [some v0, some v1, a, b]) (fun z _ => z) (evi_enumS (x1.up g1.d)) g1 (fun _ _ _ => ⟨_, _, rfl⟩) ?_ ?_
  · intro B kb i a ha s1 D2 H2 x kD2 gH2 ⟨a1, b1, es⟩ tx
    subst es
    refine ga_2 gH2.dh tx fun u1 u2 t1 t2 => ?_
    obtain ⟨c, hc2, rfl⟩ := t2
    rw [txt_list] at hc2
    refine st_ifN (σ := [some v0, some v1, some u1, some (.str (sign c))]) (eb_test (ev_op (ev_var (t := tyS (sign c)) (i := 3) rfl rfl) (ev_fld (ev_var (t := tyProg K p) (i := 0) rfl ((tyProg K p).up (g1.d.trans (kb.trans kD2)).q h0)) F.cls_Program F.no_Program_letters rfl) (rv_to (by
      show tyB (!decide (c ∈ (txt p.ls).cps.toList)) = tyB false
      rw [txt_list, decide_eq_true (hc c (List.mem_of_getElem? hc2))]; rfl) rv_notInSign))) gH2.dh fun D3 H3 g3 => ?_
    exact ⟨D3, kD2.trans g3.d, gH2.trans g3, _, _, rfl⟩
  · intro s1 D2 H2 kD2 gH2 _
    exact q .non D2 H2 gH2 rfl
abbrev sp_Program_after (K : PySem.W.Frag) : Sp := SpN (fun x : Pg × List Nat => [tyProg K x.1, tyS (txt x.2)]) (fun x => tyT [tyI (runS x.1 0 x.2), tyHeld x.1.regs (holdS x.1 0 x.1.fst x.2)]) (fun x => PgOk x.1 ∧ x.2.length ≤ 2 ∧ ∀ c ∈ x.2, c ∈ x.1.ls)
theorem cal_Program_after (F : Fc K mg) : Met P w K mg base 2 (CP K) "after" (sp_Program_after K) := mk_Program_after F (fun _ _ _ _ h => SpN.len (n := 2) (fun _ => rfl) h) fun f cdv A outer s H vs Q E hr h => by
  have nd := sc_Program_after.nd
  have hu := Nat.lt_of_le_of_lt (Nat.add_le_add_left (by decide : 1 ≤ 64) _) hr.units
  have c_check := cal_Program_check (P := P) (w := w) (base := base) F
  have c_text_of := cal_text_of (P := P) (w := w) (base := base) F
  obtain ⟨⟨p, cs⟩, D, ⟨o, hz, hc⟩, nl, k, tv, q⟩ := h
  dsimp only at o hz hc tv q
  refine ⟨_, (pss_cons (ps_expr (pe_met c_check hr (by decide) (pv 0) (pa_cons (pv 1) pa_nil)))
    (pss_cons (ps_asg (pe_tup (pa_cons pe_int (pa_cons (pe_callTy call_dictD (by rfl) F.f_dict bt_dict (pa_cons (k_fld (pv 0) rfl) pa_nil)) pa_nil))) (k_pg_tup (n := 2) rfl (pgs_cons (pg_name (i := 2) nd rfl (.inl rfl)) (pgs_cons (pg_name (i := 3) nd rfl (.inr rfl)) pgs_nil))))
    (pss_cons (ps_for PassesOwn.never rfl (pi_str (pv 1)) (pg_name (i := 4) nd rfl (.inl rfl)) (pss_cons (ps_asg (pe_dget hu (k_fld (pv 0) rfl) (pe_tup (pa_cons (pv 2) (pa_cons (pv 4) pa_nil))) (fun _ _ => rfl)) (k_pg_tup (n := 2) rfl (pgs_cons (pg_name (i := 2) nd rfl (.inl rfl)) (pgs_cons (pg_name (i := 5) nd rfl (.inl rfl)) pgs_nil))))
      (pss_one (ps_set (i := 3) nd rfl (.inr rfl) (pe_lock (pe_dc (own := [("name", 6), ("row", 7)]) rfl nd (pi_items (pv 5)) (blkOk_by (N := n_Program_after) (sc := defScope s_Program_after) (by decide +kernel)) (fun _ _ _ _ _ => (k_pg_tup (n := 2) rfl (pgs_cons (pg_name (i := 6) nd rfl (.inl rfl)) (pgs_cons (pg_name (i := 7) nd rfl (.inl rfl)) pgs_nil)))) (fun _ _ _ _ _ => pts_nil) (fun _ _ _ _ _ => (pv 6)) (fun _ _ _ _ _ => (pe_cal c_text_of hr (by decide) (by rfl) (pa_cons (pv 7) (pa_cons (pv 3) pa_nil))))))))))
    (pss_one (ps_ret (pe_tup (pa_cons (pv 2) (pa_cons (pv 3) pa_nil)))))))), ?_⟩
  obtain ⟨v0, v1, rfl, h0, h1⟩ := args2 tv
  have x0 : Ev (tVar 0) (start n_Program_after [v0, v1]) D (tyProg K p) := ev_var rfl h0
  have x1 : Ev (tVar 1) (start n_Program_after [v0, v1]) D (tyS (txt cs)) := ev_var rfl h1
  refine sq_drop (ev_meth (p, cs) hc rfl (show ("check" : Str) ∉ [("letters" : Str), "states", "registers", "firsts", "steps", "ends"] from by decide +kernel) x0 (ea_cons x1 ea_nil)) k fun D1 H1 g1 => ?_
  refine sq_asgG (ev_tup (ts := [tyI 0, tyHeld p.regs p.fst]) (ea_cons ev_c (ea_cons (ev_cb (ea_cons (ev_fld (x0.up g1.d) F.cls_Program F.no_Program_firsts rfl) ea_nil) rc_dictD) ea_nil))) g1.dh fun v D2 H2 g2 tv2 => ?_
  refine ga_2 g2.dh tv2 fun a b ta tb => ?_
  have gA := g1.trans g2
  refine st_for (xs := cs) (D := D2) (D0 := D) (H0 := H) (fun c => tyS (sign c)) (fun i s D H => ∃ vh x4 x5, s = [some v0, some v1, some (.int (runS p 0 (cs.take i))), some vh, x4, x5, none, none] ∧ (tyHeld p.regs (holdS p 0 p.fst (cs.take i))).p vh D) ?_ ?_ gA ?_ ?_ ?_
  · rintro i s D1 H1 D2 H2 ⟨vh, x4, x5, es, th⟩ g
    exact ⟨vh, x4, x5, es, (tyHeld _ _).up g.d.q th⟩
  · have := evi_str (ev_var (σ := [some v0, some v1, some a, some b, none, none, none, none]) (i := 1) rfl ((tyS (txt cs)).up gA.d.q h1))
    rw [txt_list] at this
    exact this.i
  · intro D3 H3 g3
    have ta : a = .int 0 := ta
    subst ta
    exact ⟨b, none, none, rfl, (tyHeld p.regs p.fst).up g3.d.q tb⟩
  · intro B kb i c hci s1 D3 H3 x kD3 gH3 ⟨vh, x4, x5, es, th⟩ tx
    subst es
    have hcm := hc c (List.mem_of_getElem? hci)
    have hst := run_ok o (s := 0) (by have := o.nLe; omega) (cs := cs.take i) fun d hd => hc d (List.mem_of_mem_take hd)
    have hdue : (runS p 0 (cs.take i), c) ∈ due p := due_mem.mpr ⟨hst, hcm⟩
    have kk := gA.d.trans (kb.trans kD3)
    refine sq_asgG (σ := [some v0, some v1, some (.int (runS p 0 (cs.take i))), some vh, some x, x5, none, none]) (ev_dgetT (σ := [some v0, some v1, some (.int (runS p 0 (cs.take i))), some vh, some x, x5, none, none]) (k := dkey (runS p 0 (cs.take i), c)) (ev_fld (ev_var (t := tyProg K p) (i := 0) rfl ((tyProg K p).up kk.q h0)) F.cls_Program F.no_Program_steps rfl) (key_tup (x := (runS p 0 (cs.take i), c)) (ev_var (i := 2) rfl rfl) (ev_var (i := 4) rfl tx)) (tys_step hdue)) gH3.dh fun v4 D4 H4 g4 t4 => ?_
    refine ga_2 g4.dh t4 fun u1 u2 t1 t2 => ?_
    have t1 : u1 = .int (p.goal (runS p 0 (cs.take i)) c) := t1
    subst t1
    have nl4 : NoLk D4 := nl.up (kk.trans g4.d)
    have th4 := (tyHeld p.regs _).up g4.d.q th
    refine st_asg (σ := [some v0, some v1, some (.int (p.goal (runS p 0 (cs.take i)) c)), some vh, some x, some u2, none, none]) (t := tyHeld p.regs (stepG p (runS p 0 (cs.take i)) c (holdS p 0 p.fst (cs.take i)))) ?_ g4.dh fun v5 D5 H5 g5 t5 => ?_
    · refine ev_lockK nl4.k (pu_var (i := 5) rfl) t2 fun D6 d od kvs kq ed pd hd hv => ?_
      have := evi_items pd hd hv
      rw [List.map_map] at this
      refine ev_dc (fun r => tyT [tyS r, tyRow (p.row (runS p 0 (cs.take i)) c r)]) (fun r => .inr r) (fun r => tyS (stepG p (runS p 0 (cs.take i)) c (holdS p 0 p.fst (cs.take i)) r)) this (List.Pairwise.map _ (fun a b h e => h (Sum.inr.inj e)) o.regsNd) (by have := o.regsLen; omega) fun r hrm D7 k7 y hy => ?_
      refine dcel_2 hy (fun _ _ => rfl) fun a2 b2 ta2 tb2 => ⟨ev_var (i := 6) rfl ta2, ?_⟩
      have hro := o.row _ hdue r hrm
      refine ev_call (p.row (runS p 0 (cs.take i)) c r, p.regs, holdS p 0 p.fst (cs.take i)) ⟨hro.2.1, fun r2 h2 => (hro.2.2 _ h2).2 r2 rfl, ?_⟩ (ea_cons (ev_var (i := 7) rfl tb2) (ea_cons (ev_var (i := 3) rfl ((tyHeld p.regs _).up (kq.trans k7.q) th4)) ea_nil))
      have hl : (cs.take i).length ≤ 2 := by rw [List.length_take]; omega
      have hp : 5 ^ (cs.take i).length ≤ 25 := Nat.le_trans (Nat.pow_le_pow_right (by decide) hl) (by decide)
      have hh := hold_len o (s := 0) (g := p.fst) (z := 100) (by have := o.nLe; omega) (cs := cs.take i) (fun d hd => hc d (List.mem_of_mem_take hd)) (Nat.le_refl _) fun r hr => (o.fst r hr).1
      have := row_sum (g := holdS p 0 p.fst (cs.take i)) (z := 2500) (by decide) (fun i hi => (hro.2.2 i hi).1) fun r3 h3 => by
        have := hh r3 ((hro.2.2 _ h3).2 r3 rfl)
        omega
      have h5 := Nat.mul_le_mul_right 2500 hro.1
      have h6 : (p.row (runS p 0 (cs.take i), c).fst (runS p 0 (cs.take i), c).snd r).length * 2500 ≤ 100000 := Nat.le_trans h5 (by decide)
      exact Nat.le_trans this h6
    · refine ⟨D5, (kD3.trans g4.d).trans g5.d, (gH3.trans g4).trans g5, v5, some x, some u2, ?_, ?_⟩
      · rw [take_one hci, run_app]
        rfl
      · rw [take_one hci, hold_app]
        exact t5
  · intro s1 D3 H3 kD3 gH3 ⟨vh, x4, x5, es, th⟩
    subst es
    rw [List.take_length] at th ⊢
    exact st_ret (t := tyT [tyI (runS p 0 cs), tyHeld p.regs (holdS p 0 p.fst cs)]) (ev_tup (ea_cons (ev_var (i := 2) rfl rfl) (ea_cons (ev_var (i := 3) rfl th) ea_nil))) gH3.dh fun v D4 H4 g4 tv4 => q v D4 H4 (gH3.trans g4) tv4
end
end K02
set_option Elab.async false
set_option linter.all false
set_option maxRecDepth 100000
set_option maxHeartbeats 8000000
namespace K02
open PySem PySem.Spec PyProof.Rows L2 PySem.W
section
variable {P : Program} {w : World} {K : PySem.W.Frag} {mg : Str → Option Value} {base : Heap}
variable {σ : Sl} {D D' H : Hp} {te ta tk tv : TE} {t u z : Ty} {ts : List Ty}
/-! ### local lists and dicts -/
theorem st_pop {E : Ends} {i j : Nat} {l : Addr} {acc : List V} {y : V} {b : TS} (hl : σ[i]? = some (some (.ref l))) (hH : H l = some (.lst (acc ++ [y]))) (q : b E (σ.set j (some y)) (upd H l (.lst acc))) : tSeq (tAsg (tBM0 K "list" rPop (tVar i)) (gName j)) b E σ H :=
  ⟨.ref l, hl, .inl ⟨rfl, acc ++ [y], SqL.of hH⟩, l, acc ++ [y], y, rfl, rfl, hH, by simp, by
    rw [List.dropLast_concat]
    exact q⟩
theorem rPop0 {l : Addr} {acc : List V} {y : V} {Q : VK} (hH : H l = some (.lst (y :: acc))) (q : Q y (upd H l (.lst acc))) : rPopAt (.ref l) [.int 0] H Q :=
  ⟨l, y :: acc, 0, 0, y, rfl, rfl, hH, by decide, by decide, by
    have := (ixN_seq (n := (y :: acc).length) (i := 0) (j := 0) (by unfold ixN; rw [if_pos (by decide), if_pos (by rw [List.length_cons]; omega)]; rfl)).1
    exact this, rfl, q⟩
theorem st_append {E : Ends} {i : Nat} {l : Addr} {acc : List V} (hl : σ[i]? = some (some (.ref l))) (c : Loc l (.lst acc) D H) (e : Ev te σ D t) (k : Kp D H) (z : acc.length < 100000)
    (q : ∀ v D1 H1, Grow D H D1 H1 → t.p v D1 → Loc l (.lst acc) D1 H1 → E.nx σ (upd H1 l (.lst (acc ++ [v])))) : tDrop (tBM K "list" rAppend (tVar i) (tCons te tNil)) E σ H := ev_append hl c e k z q
theorem sq_append {E : Ends} {i : Nat} {l : Addr} {acc : List V} {b : TS} (hl : σ[i]? = some (some (.ref l))) (c : Loc l (.lst acc) D H) (e : Ev te σ D t) (k : Kp D H) (z : acc.length < 100000)
    (q : ∀ v D1 H1, Grow D H D1 H1 → t.p v D1 → Loc l (.lst acc) D1 H1 → b E σ (upd H1 l (.lst (acc ++ [v])))) : tSeq (tDrop (tBM K "list" rAppend (tVar i) (tCons te tNil))) b E σ H := ev_append (E := { E with nx := b E }) hl c e k z q
/-- d[k] = v of a local dict, k new -/
theorem sq_dput {E : Ends} {i : Nat} {d : Addr} {acc : List (Key × V)} {k : Key} {b : TS} (hd : σ[i]? = some (some (.ref d))) (c : Loc d (.dK acc) D H) (ev : Ev tv σ D t) (ek : Ev tk σ D (tyV (kV k))) (kp : Kp D H) (z : acc.length < 100000) (no : k ∉ acc.map (·.1))
    (q : ∀ v D1 H1, Grow D H D1 H1 → t.p v D1 → Loc d (.dK acc) D1 H1 → b E σ (upd H1 d (.dK (acc ++ [(k, v)])))) : tSeq (sDPut (tVar i) tk tv) b E σ H :=
  ev.use kp fun v D1 H1 g1 hv => ⟨.ref d, hd, (ek.up g1.d).use g1.dh fun y D2 H2 g2 hy => by
    have hy : y = kV k := hy
    subst hy
    have c2 := c.grow (x := .dK acc) True.intro (g1.trans g2)
    have hp : putK acc k v = acc ++ [(k, v)] := putK_new v (valV_no no)
    refine ⟨d, upd H2 d (.dK (acc ++ [(k, v)])), rfl, ?_, q v D2 H2 (g1.trans g2) (t.up g2.d.q hv) c2⟩
    rw [← hp]
    exact DPut.k c2.h (Nat.lt_of_lt_of_le z (by decide))⟩
/-- k not in d, of a local dict -/
theorem notin_loc {i : Nat} {d : Addr} {acc : List (Key × V)} {k : Key} {Q : Bool → Hp → Prop} (hd : σ[i]? = some (some (.ref d))) (c : Loc d (.dK acc) D H) (ek : Ev tk σ D (tyV (kV k))) (kp : Kp D H) (q : ∀ D1 H1, Grow D H D1 H1 → Loc d (.dK acc) D1 H1 → Q (!(valV acc k).isSome) H1) :
    tB (tDNotIn tk (tVar i)) σ H Q := ek.use kp fun y D1 H1 g1 hy => ⟨.ref d, hd, by
    have hy : y = kV k := hy
    subst hy
    have c1 := c.grow (x := .dK acc) True.intro g1
    exact ⟨d, valV acc k, rfl, DGet.k c1.h, _, rfl, q D1 H1 g1 c1⟩⟩
theorem valV_ints {f : Int → V} {ks : List Int} {k : Int} : (valV (ks.map fun x => ((Sum.inl x : Key), f x)) (.inl k)).isSome = decide (k ∈ ks) := by
  by_cases m : k ∈ ks
  · rw [decide_eq_true m]
    cases hv : valV (ks.map fun x => ((Sum.inl x : Key), f x)) (.inl k) with
    | some v => rfl
    | none =>
      refine absurd ?_ (valV_not hv)
      rw [List.map_map]
      exact List.mem_map.mpr ⟨k, m, rfl⟩
  · rw [decide_eq_false m, valV_no (fun h => m (by
      rw [List.map_map] at h
      obtain ⟨x, hx, e⟩ := List.mem_map.mp h
      cases e
      exact hx))]
    rfl
theorem shaped_ints (l : List Int) : SeqAt.shaped (.list (l.map PyData.int)) = true := by
  have c : PyData.canLayAll0 (l.map PyData.int) = true := by
    induction l with
    | nil => rfl
    | cons a r ih =>
      rw [List.map_cons]
      show (true && _) = true
      rw [ih]
      rfl
  have d : PyData.depthAll (l.map PyData.int) = 0 := by
    clear c
    induction l with
    | nil => rfl
    | cons a r ih =>
      rw [List.map_cons]
      show max 0 _ = 0
      rw [ih]
      rfl
  show (PyData.canLayAll0 (l.map PyData.int) && decide (PyData.depthAll (l.map PyData.int) + 1 ≤ 64)) = true
  rw [c, d]
  rfl

/-! ### the reached states -/
def rch (p : Pg) : List Int := if (p.ls.any fun c => decide (p.goal 0 c = 1)) = true then [0, 1] else [0]
structure RInv (p : Pg) (ks ws : List Int) : Prop where
  nd : ks.Nodup
  zero : 0 ∈ ks
  sub : ∀ k ∈ ws, k ∈ ks
  from0 : ∀ k ∈ ks, k = 0 ∨ ∃ c ∈ p.ls, p.goal 0 c = k
  ok : ∀ k ∈ ks, 0 ≤ k ∧ k < p.n
  clo : ∀ k ∈ ks, k ∉ ws → ∀ c ∈ p.ls, p.goal k c ∈ ks
theorem ks_len {p : Pg} (o : PgOk p) {ks : List Int} (nd : ks.Nodup) (h : ∀ k ∈ ks, 0 ≤ k ∧ k < p.n) : ks.length ≤ 2 := by
  have := o.nLe
  have h2 : ∀ k ∈ ks, k ∈ ([0, 1] : List Int) := fun k hk => by
    have := h k hk
    have : k = 0 ∨ k = 1 := by omega
    rcases this with e | e <;> simp [e]
  have h3 : ks.Perm (([0, 1] : List Int).filter fun k => decide (k ∈ ks)) := (List.perm_ext_iff_of_nodup nd (List.Pairwise.filter _ (by decide))).mpr fun k => by
    rw [List.mem_filter]
    exact ⟨fun hk => ⟨h2 k hk, decide_eq_true hk⟩, fun hk => of_decide_eq_true hk.2⟩
  rw [h3.length_eq]
  exact List.length_filter_le _ _
theorem rch_mem {p : Pg} (o : PgOk p) {k : Int} : k ∈ rch p ↔ k = 0 ∨ ∃ c ∈ p.ls, p.goal 0 c = k := by
  have hn := o.nLe
  have hg : ∀ c ∈ p.ls, 0 ≤ p.goal 0 c ∧ p.goal 0 c < p.n := fun c hc => o.goal (0, c) (due_mem.mpr ⟨by constructor <;> simp; omega, hc⟩)
  unfold rch
  split
  · rename_i h
    obtain ⟨c, hc, e⟩ := List.any_eq_true.mp h
    have e := of_decide_eq_true e
    constructor
    · intro hk
      simp at hk
      rcases hk with rfl | rfl
      · exact .inl rfl
      · exact .inr ⟨c, hc, e⟩
    · rintro (rfl | ⟨d, hd, rfl⟩)
      · simp
      · have := hg d hd
        have : p.goal 0 d = 0 ∨ p.goal 0 d = 1 := by omega
        rcases this with e | e <;> simp [e]
  · rename_i h
    constructor
    · intro hk
      simp at hk
      exact .inl hk
    · rintro (rfl | ⟨d, hd, rfl⟩)
      · simp
      · have h1 : p.goal 0 d ≠ 1 := fun e => h (List.any_eq_true.mpr ⟨d, hd, decide_eq_true e⟩)
        have := hg d hd
        have : p.goal 0 d = 0 := by omega
        simp [this]
theorem rch_sorted (p : Pg) : (rch p).Pairwise (· ≤ ·) := by
  unfold rch
  split <;> decide
theorem rch_nd (p : Pg) : (rch p).Nodup := by
  unfold rch
  split <;> decide
theorem rch_len (p : Pg) : (rch p).length ≤ 2 := by
  unfold rch
  split <;> decide
theorem rch_ok {p : Pg} (o : PgOk p) : ∀ k ∈ rch p, 0 ≤ k ∧ k < p.n := fun k hk => by
  have hn := o.nLe
  rcases (rch_mem o).mp hk with rfl | ⟨c, hc, rfl⟩
  · constructor <;> simp; omega
  · exact o.goal (0, c) (due_mem.mpr ⟨by constructor <;> simp; omega, hc⟩)
theorem rch_clo {p : Pg} (o : PgOk p) : ∀ k ∈ rch p, ∀ c ∈ p.ls, p.goal k c ∈ rch p := fun k hk c hc => by
  have hn := o.nLe
  have hg := o.goal (k, c) (due_mem.mpr ⟨rch_ok o k hk, hc⟩)
  rw [rch_mem o] at hk ⊢
  rcases hk with rfl | ⟨d, hd, e⟩
  · exact .inr ⟨c, hc, rfl⟩
  · have : p.goal k c = 0 ∨ p.goal k c = 1 := by
      have := hg.1
      have := hg.2
      simp only at *
      omega
    rcases this with h | h
    · exact .inl h
    · by_cases h1 : k = 1
      · exact .inr ⟨d, hd, by rw [e, h, h1]⟩
      · have hk0 : k = 0 := by
          have := o.goal (0, d) (due_mem.mpr ⟨by constructor <;> simp; omega, hd⟩)
          simp only at this
          omega
        exact .inr ⟨c, hc, by rw [← hk0]⟩
theorem RInv.done {p : Pg} (o : PgOk p) {ks : List Int} (r : RInv p ks []) {ys : List Int} (py : ys.Perm ks) (sy : ys.Pairwise (· ≤ ·)) : ys = rch p := by
  refine List.Perm.eq_of_pairwise (le := (· ≤ ·)) (fun a b _ _ h1 h2 => Int.le_antisymm h1 h2) sy (rch_sorted p) (py.trans ((List.perm_ext_iff_of_nodup r.nd (rch_nd p)).mpr fun k => ?_))
  rw [rch_mem o]
  constructor
  · exact r.from0 k
  · rintro (rfl | ⟨c, hc, rfl⟩)
    · exact r.zero
    · exact r.clo 0 r.zero (by simp) c hc
structure RInvI (p : Pg) (here : Int) (i : Nat) (ks ws : List Int) : Prop where
  nd : ks.Nodup
  zero : 0 ∈ ks
  sub : ∀ k ∈ ws, k ∈ ks
  from0 : ∀ k ∈ ks, k = 0 ∨ ∃ c ∈ p.ls, p.goal 0 c = k
  ok : ∀ k ∈ ks, 0 ≤ k ∧ k < p.n
  hm : here ∈ ks
  clo : ∀ k ∈ ks, k ∉ ws → k ≠ here → ∀ c ∈ p.ls, p.goal k c ∈ ks
  cur : ∀ c ∈ p.ls.take i, p.goal here c ∈ ks
theorem RInv.pop {p : Pg} {ks ws : List Int} {here : Int} (r : RInv p ks (ws ++ [here])) : RInvI p here 0 ks ws :=
  ⟨r.nd, r.zero, fun k hk => r.sub k (List.mem_append_left _ hk), r.from0, r.ok, r.sub here (by simp), fun k hk hw hh => r.clo k hk (by simp [hw, hh]), by simp⟩
theorem RInvI.old {p : Pg} {ks ws : List Int} {here : Int} {i c : Nat} (r : RInvI p here i ks ws) (hc : p.ls[i]? = some c) (h : p.goal here c ∈ ks) : RInvI p here (i + 1) ks ws :=
  ⟨r.nd, r.zero, r.sub, r.from0, r.ok, r.hm, r.clo, fun d hd => by
    rw [take_one hc] at hd
    rcases List.mem_append.mp hd with hd | hd
    · exact r.cur d hd
    · rw [List.mem_singleton.mp hd]
      exact h⟩
theorem RInvI.new {p : Pg} (o : PgOk p) {ks ws : List Int} {here : Int} {i c : Nat} (r : RInvI p here i ks ws) (hc : p.ls[i]? = some c) (h : p.goal here c ∉ ks) : RInvI p here (i + 1) (ks ++ [p.goal here c]) (ws ++ [p.goal here c]) := by
  have hn := o.nLe
  have hcm := List.mem_of_getElem? hc
  have hok := r.ok here r.hm
  have hg := o.goal (here, c) (due_mem.mpr ⟨hok, hcm⟩)
  refine ⟨?_, List.mem_append_left _ r.zero, fun k hk => ?_, fun k hk => ?_, fun k hk => ?_, List.mem_append_left _ r.hm, fun k hk hw hh d hd => ?_, fun d hd => ?_⟩
  · exact List.nodup_append.mpr ⟨r.nd, by simp, fun a ha b hb e => h (by simp at hb; rw [← hb, ← e]; exact ha)⟩
  · rcases List.mem_append.mp hk with hk | hk
    · exact List.mem_append_left _ (r.sub k hk)
    · exact List.mem_append_right _ hk
  · rcases List.mem_append.mp hk with hk | hk
    · exact r.from0 k hk
    · have hk := List.mem_singleton.mp hk
      by_cases h0 : here = 0
      · exact .inr ⟨c, hcm, by rw [hk, h0]⟩
      · exfalso
        have h1 : here = 1 := by omega
        have : p.goal here c = 0 ∨ p.goal here c = 1 := by
          have := hg.1
          have := hg.2
          simp only at *
          omega
        rcases this with e | e
        · exact h (by rw [e]; exact r.zero)
        · exact h (by rw [e, ← h1]; exact r.hm)
  · rcases List.mem_append.mp hk with hk | hk
    · exact r.ok k hk
    · rw [List.mem_singleton.mp hk]
      exact hg
  · rcases List.mem_append.mp hk with hk | hk
    · exact List.mem_append_left _ (r.clo k hk (fun z => hw (List.mem_append_left _ z)) hh d hd)
    · exact absurd (List.mem_append_right _ hk) hw
  · rw [take_one hc] at hd
    rcases List.mem_append.mp hd with hd | hd
    · exact List.mem_append_left _ (r.cur d hd)
    · rw [List.mem_singleton.mp hd]
      exact List.mem_append_right _ (by simp)
theorem RInvI.fin {p : Pg} {ks ws : List Int} {here : Int} (r : RInvI p here p.ls.length ks ws) : RInv p ks ws :=
  ⟨r.nd, r.zero, r.sub, r.from0, r.ok, fun k hk hw => by
    by_cases h : k = here
    · subst h
      intro c hc
      exact r.cur c (by rw [List.take_length]; exact hc)
    · exact r.clo k hk hw h⟩
abbrev kvB (ks : List Int) : List (Key × V) := ks.map fun k => (Sum.inl k, V.bl true)
abbrev sp_Program_reached (K : PySem.W.Frag) : Sp := SpF (fun p : Pg => [tyProg K p]) (fun p => tyL ((rch p).map tyI)) PgOk
def RchI (p : Pg) (v0 : V) (fd wl : Addr) (m : Nat) (s : Sl) (D H : Hp) : Prop := ∃ ks ws x3 x4 x5, s = [some v0, some (.ref fd), some (.ref wl), x3, x4, x5] ∧ Loc fd (.dK (kvB ks)) D H ∧ Loc wl (.lst (ws.map V.int)) D H ∧ RInv p ks ws ∧ (2 * (2 - ks.length) + ws.length ≤ m ∧ 2 * (2 - ks.length) + ws.length ≤ 3)
def RchJ (p : Pg) (v0 : V) (fd wl : Addr) (here : Int) (m i : Nat) (s : Sl) (D H : Hp) : Prop := ∃ ks ws x4 x5, s = [some v0, some (.ref fd), some (.ref wl), some (.int here), x4, x5] ∧ Loc fd (.dK (kvB ks)) D H ∧ Loc wl (.lst (ws.map V.int)) D H ∧ RInvI p here i ks ws ∧ (2 * (2 - ks.length) + ws.length + 1 ≤ m ∧ 2 * (2 - ks.length) + ws.length + 1 ≤ 3)
theorem cal_Program_reached (F : Fc K mg) : Met P w K mg base 1 (CP K) "reached" (sp_Program_reached K) := mk_Program_reached F (fun _ _ _ _ h => SpF.len (n := 1) (fun _ => rfl) h) fun f cdv A outer s H vs Q E hr h => by
  have nd := sc_Program_reached.nd
  have hu := Nat.lt_of_le_of_lt (Nat.add_le_add_left (by decide : 1 ≤ 64) _) hr.units
  obtain ⟨p, D, o, k, tv, q⟩ := h
  refine ⟨_, (pss_cons (ps_par (i := 1) (j := 2) rfl nd rfl rfl (by decide) rfl rfl (pa_cons (pe_disp (pps_cons pe_int pe_bl pps_nil) rfl rfl (by decide) (by decide)) (pa_cons (pe_lst (pa_cons pe_int pa_nil)) pa_nil)) rfl)
    (pss_cons (ps_while PassesOwn.never (pt_cmpR (k_neD hr.units) (pv 2) (pe_lst pa_nil) (nomark _)) (pss_cons (ps_set (i := 3) nd rfl (.inl rfl) (pe_bm0 PySem.F.plainAttrs_list PySem.F.slot_list_pop PySem.F.type_list_pop mt_pop (pv 2)))
      (pss_one (ps_for PassesOwn.never rfl (pi_str (k_fld (pv 0) rfl)) (pg_name (i := 4) nd rfl (.inl rfl)) (pss_cons (ps_set (i := 5) nd rfl (.inl rfl) (pe_ix k_ix_tup (pe_dget hu (k_fld (pv 0) rfl) (pe_tup (pa_cons (pv 3) (pa_cons (pv 4) pa_nil))) (fun _ _ => rfl)) pe_int (fun _ _ => rfl)))
        (pss_one (ps_if (pt_cmp (pc_dnotin hu (pv 5) (pv 1))) (pss_cons (ps_dput hu (pv 1) (pv 5) pe_bl rfl)
          (pss_one (ps_expr (pe_bm PySem.F.plainAttrs_list PySem.F.slot_list_append PySem.F.type_list_append mt_append (pv 2) (pa_cons (pv 5) pa_nil))))) pss_nil)))))))
    (pss_one (ps_ret (pe_callB (call_sortedDI rfl) (by rfl) F.f_sorted bt_sorted (pa_cons (pv 1) pa_nil)))))), ?_⟩
  obtain ⟨v0, rfl, h0⟩ := args1 tv
  have hn := o.nLe
  intro fd hfd
  refine ⟨upd_same, [(.inl 0, .bl true)], rfl, by decide, ?_⟩
  rw [upd_upd]
  refine ⟨by decide, fun wl hwl => ⟨_, _, rfl, ?_⟩⟩
  have hne : wl ≠ fd := fun e => by
    rw [e, upd_same] at hwl
    cases hwl
  have hwl0 : H wl = none := by rw [upd_ne hne] at hwl; exact hwl
  have g1 : Grow D H D (upd H fd (.dK (kvB [0]))) := (Grow.refl k).mut hfd (k.dom hfd) nf_dK
  have g2 : Grow D H D (upd (upd H fd (.dK (kvB [0]))) wl (.lst ([(0 : Int)].map V.int))) := g1.mut hwl0 (k.dom hwl0) nf_lst
  refine st_while (D0 := D) (H0 := H) (D := D) (RchI p v0 fd wl) g2 3 ⟨[0], [0], none, none, none, rfl, ⟨k.dom hfd, by rw [upd_ne (fun e => hne e.symm), upd_same]; rfl⟩, ⟨k.dom hwl0, upd_same⟩, ⟨by simp, by simp, fun k hk => hk, fun k hk => .inl (by simpa using hk), fun k hk => by
    have : k = 0 := by simpa using hk
    omega, fun k hk hw => absurd hk hw⟩, by simp⟩ ?_
  rintro m s1 D1 H1 kd gh ⟨ks, ws, x3, x4, x5, rfl, cf, cw, inv, hm⟩
  have kl := ks_len o inv.nd inv.ok
  refine ne_nil (K := K) (f := tyI) (g := PyData.int) (xs := ws) (i := 2) (fun _ => dp_int) rfl cw gh.dh (by
    have := tysAt_of (xs := ws.map V.int) (H := D1)
    rw [List.map_map] at this
    exact this) (shaped_ints ws) fun D2 H2 g3 => ?_
  have cf2 := cf.grow (x := .dK _) True.intro g3
  have cw2 := cw.grow (x := .lst _) True.intro g3
  have gh2 := gh.trans g3
  have nfw : fd ≠ wl := cf2.ne cw2 (by intro e; cases e)
  rcases List.eq_nil_or_concat ws with rfl | ⟨ws', here, rfl⟩
  · refine whq_f rfl ?_
    have g4 := cf2.own (x := .dK _) gh2 hfd (.inr True.intro)
    refine ⟨.ref fd, rfl, fd, kvB ks, ks, rfl, .inl cf2.h, by rw [List.map_map]; rfl, by omega, fun ys pl py sy hp => ?_⟩
    rw [inv.done o py sy]
    refine q (.ref pl) _ _ (gh2.add (u := .lst ((rch p).map V.int)) hp (.inl True.intro)) ⟨pl, _, rfl, upd_same, ?_⟩
    have := tysAt_of (xs := (rch p).map V.int) (H := upd D2 pl (.lst ((rch p).map V.int)))
    rw [List.map_map] at this
    exact this
  · have e1 : (!(ws'.concat here).isEmpty) = true := by simp
    refine whq_t e1 ?_
    rw [List.concat_eq_append] at cw2 inv hm
    refine st_pop (i := 2) (j := 3) (acc := ws'.map V.int) (y := .int here) rfl (by rw [cw2.h, List.map_append]; rfl) ?_
    have gh3 := cw2.set (y := .lst (ws'.map V.int)) gh2 hwl0 nf_lst
    have cw3 := cw2.put (y := .lst (ws'.map V.int))
    have cf3 := cf2.off (y := .lst (ws'.map V.int)) nfw
    have x0 : Ev (tFld K (tVar 0) "letters") [some v0, some (.ref fd), some (.ref wl), some (.int here), x4, x5] D2 (tyS (txt p.ls)) := ev_fld (ev_var (t := tyProg K p) (i := 0) rfl ((tyProg K p).up (kd.trans g3.d).q h0)) F.cls_Program F.no_Program_letters rfl
    refine st_for (xs := p.ls) (fun c => tyS (sign c)) (RchJ p v0 fd wl here m) ?_ (D := D2) (by
      have := evi_str x0
      rw [txt_list] at this
      exact this.i) gh3 ?_ ?_ ?_
    · rintro i s D1 H1 D2 H2 ⟨ks, ws, x4, x5, es, cf, cw, r⟩ g
      exact ⟨ks, ws, x4, x5, es, cf.grow (x := .dK _) True.intro g, cw.grow (x := .lst _) True.intro g, r⟩
    · intro D3 H3 g4
      refine ⟨ks, ws', x4, x5, rfl, cf3.grow (x := .dK _) True.intro g4, cw3.grow (x := .lst _) True.intro g4, inv.pop, ?_⟩
      rw [List.length_append] at hm
      simp at hm
      omega
    · rintro B kb i c hci s2 D3 H3 x kD3 gH3 ⟨ks2, ws2, y4, y5, rfl, cf4, cw4, inv2, hm2⟩ tx
      have hcm := List.mem_of_getElem? hci
      have hdue : (here, c) ∈ due p := due_mem.mpr ⟨inv2.ok here inv2.hm, hcm⟩
      have kk := (kd.trans g3.d).trans (kb.trans kD3)
      have kl2 := ks_len o inv2.nd inv2.ok
      refine sq_asg (σ := [some v0, some (.ref fd), some (.ref wl), some (.int here), some x, y5]) (t := tyI (p.goal here c)) (ev_op (ev_dgetT (k := dkey (here, c)) (ev_fld (ev_var (t := tyProg K p) (i := 0) rfl ((tyProg K p).up kk.q h0)) F.cls_Program F.no_Program_steps rfl) (key_tup (x := (here, c)) (ev_var (i := 3) rfl rfl) (ev_var (i := 4) rfl tx)) (tys_step hdue)) ev_c (rv_ixT rfl)) gH3.dh fun v5 D4 H4 g4 t5 => ?_
      have t5 : v5 = .int (p.goal here c) := t5
      subst t5
      have cf5 := cf4.grow (x := .dK _) True.intro g4
      have cw5 := cw4.grow (x := .lst _) True.intro g4
      have gH4 := gH3.trans g4
      refine notin_loc (σ := [some v0, some (.ref fd), some (.ref wl), some (.int here), some x, some (.int (p.goal here c))]) (k := .inl (p.goal here c)) (i := 1) rfl cf5 (ev_var (i := 5) rfl rfl) gH4.dh fun D5 H5 g5 cf6 => ?_
      have cw6 := cw5.grow (x := .lst _) True.intro g5
      have gH5 := gH4.trans g5
      rw [valV_ints]
      by_cases hmem : p.goal here c ∈ ks2
      · rw [decide_eq_true hmem]
        exact iteF ⟨D5, (kD3.trans g4.d).trans g5.d, gH5, ks2, ws2, _, _, rfl, cf6, cw6, inv2.old hci hmem, hm2⟩
      · rw [decide_eq_false hmem]
        refine iteT ?_
        have inv3 := inv2.new o hci hmem
        have kl3 := ks_len o inv3.nd inv3.ok
        rw [List.length_append] at kl3
        simp at kl3
        have nfw2 : fd ≠ wl := nfw
        refine sq_dput (σ := [some v0, some (.ref fd), some (.ref wl), some (.int here), some x, some (.int (p.goal here c))]) (t := tyB true) (k := .inl (p.goal here c)) (i := 1) rfl cf6 ev_c (ev_var (i := 5) rfl rfl) gH5.dh (by rw [List.length_map]; omega) (by
          rw [List.map_map]
          intro hm3
          obtain ⟨y, hy, e⟩ := List.mem_map.mp hm3
          cases e
          exact hmem hy) fun v6 D6 H6 g6 t6 cf7 => ?_
        have t6 : v6 = .bl true := t6
        subst t6
        have cw7 := cw6.grow (x := .lst _) True.intro g6
        have gH6 := cf7.set (y := .dK (kvB ks2 ++ [(.inl (p.goal here c), .bl true)])) (gH5.trans g6) hfd nf_dK
        have cf8 := cf7.put (y := .dK (kvB ks2 ++ [(.inl (p.goal here c), .bl true)]))
        have cw8 := cw7.off (y := .dK (kvB ks2 ++ [(.inl (p.goal here c), .bl true)])) (fun e => nfw2 e.symm)
        refine st_append (σ := [some v0, some (.ref fd), some (.ref wl), some (.int here), some x, some (.int (p.goal here c))]) (t := tyI (p.goal here c)) (i := 2) rfl cw8 (ev_var (i := 5) rfl rfl) gH6.dh (by rw [List.length_map]; omega) fun v7 D7 H7 g7 t7 cw9 => ?_
        have t7 : v7 = .int (p.goal here c) := t7
        subst t7
        have cf9 := cf8.grow (x := .dK _) True.intro g7
        refine ⟨D7, ((kD3.trans g4.d).trans g5.d).trans (g6.d.trans g7.d), cw9.set (gH6.trans g7) hwl0 nf_lst, ks2 ++ [p.goal here c], ws2 ++ [p.goal here c], _, _, rfl, ?_, ?_, inv3, ?_⟩
        · have := cf9.off (y := .lst (ws2.map V.int ++ [.int (p.goal here c)])) nfw2
          rw [show kvB (ks2 ++ [p.goal here c]) = kvB ks2 ++ [(.inl (p.goal here c), .bl true)] from by simp]
          exact this
        · rw [List.map_append]
          exact cw9.put
        · rw [List.length_append, List.length_append]
          simp
          omega
    · rintro s2 D3 H3 kD3 gH3 ⟨ks2, ws2, y4, y5, rfl, cf4, cw4, inv2, hm2⟩
      exact ⟨m - 1, by omega, D3, (kd.trans g3.d).trans kD3, gH3, ks2, ws2, _, _, _, rfl, cf4, cw4, inv2.fin, by omega⟩
end
end K02
set_option Elab.async false
set_option linter.all false
set_option maxRecDepth 100000
set_option maxHeartbeats 8000000
namespace K02
open PySem PySem.Spec PyProof.Rows L2 PySem.W
section
variable {P : Program} {w : World} {K : PySem.W.Frag} {mg : Str → Option Value} {base : Heap}
variable {σ : Sl} {D D' H : Hp} {te ta tk tv td : TE} {t u z : Ty} {ts : List Ty}
/-! ### a dict of lists that grow, walked while it is locked -/
theorem Grow.both {D H D' H' : Hp} {p : Addr} {o : HO} (g : Grow D H D' H') : Grow (upd D p o) (upd H p o) (upd D' p o) (upd H' p o) :=
  ⟨g.d.both, g.dh.both, g.h.both, fun {a u} e f m => by
    by_cases c : a = p
    · subst c
      rw [upd_same] at e
      cases e
    · rw [upd_ne c] at e f ⊢
      exact g.new e f m⟩
theorem Grow.unlk {D0 H0 D2 H2 : Hp} {d : Addr} {f x : HO} (g : Grow (upd D0 d f) (upd H0 d f) D2 H2) (n : H0 d = none) (k : Kp D0 H0) (sx : Soft x) : Grow D0 H0 (upd D2 d x) (upd H2 d x) := by
  have h1 := g.both (p := d) (o := x)
  rw [upd_upd, upd_upd] at h1
  exact ((Grow.refl k).add n (.inr sx)).trans h1
/-- the lists at the addresses of some keys -/
structure LkS (ks : List Int) (ad : Int → Addr) (ct : Int → List V) (H0 D H : Hp) : Prop where
  loc : ∀ k ∈ ks, Loc (ad k) (.lst (ct k)) D H
  new : ∀ k ∈ ks, H0 (ad k) = none
  inj : ∀ k ∈ ks, ∀ j ∈ ks, ad k = ad j → k = j
theorem LkS.grow {ks : List Int} {ad : Int → Addr} {ct : Int → List V} {H0 D1 H1 D2 H2 : Hp} (c : LkS ks ad ct H0 D1 H1) (g : Grow D1 H1 D2 H2) : LkS ks ad ct H0 D2 H2 :=
  ⟨fun k hk => (c.loc k hk).grow (x := .lst _) True.intro g, c.new, c.inj⟩
theorem LkS.put {ks : List Int} {ad : Int → Addr} {ct : Int → List V} {H0 D H : Hp} (c : LkS ks ad ct H0 D H) {k : Int} (hk : k ∈ ks) (vs : List V) : LkS ks ad (fun j => if j = k then vs else ct j) H0 D (upd H (ad k) (.lst vs)) :=
  ⟨fun j hj => by
    by_cases e : j = k
    · subst e
      show Loc (ad j) (.lst (if j = j then vs else ct j)) D _
      rw [if_pos rfl]
      exact (c.loc j hj).put
    · show Loc (ad j) (.lst (if j = k then vs else ct j)) D _
      rw [if_neg e]
      exact (c.loc j hj).off fun h => e (c.inj j hj k hk h), c.new, c.inj⟩
theorem LkS.own {D0 H0 : Hp} {ct : Int → List V} {ad : Int → Addr} : ∀ {ks : List Int} {D H : Hp}, ks.Nodup → LkS ks ad ct H0 D H → Grow D0 H0 D H → ∃ D2, Grow D0 H0 D2 H ∧ Kp D D2 ∧ ∀ k ∈ ks, D2 (ad k) = some (.lst (ct k))
  | [], D, H, _, c, g => ⟨D, g, Kp.refl _, fun k h => by cases h⟩
  | k :: r, D, H, nd, c, g => by
    obtain ⟨nk, nr⟩ := List.nodup_cons.mp nd
    have ck := c.loc k List.mem_cons_self
    obtain ⟨g1, k1⟩ := ck.own g (c.new k List.mem_cons_self) (.inl True.intro)
    have c2 : LkS r ad ct H0 (upd D (ad k) (.lst (ct k))) H := ⟨fun j hj => ⟨by
      rw [upd_ne fun e => nk (by rw [← c.inj j (List.mem_cons_of_mem _ hj) k List.mem_cons_self e]; exact hj)]
      exact (c.loc j (List.mem_cons_of_mem _ hj)).d, (c.loc j (List.mem_cons_of_mem _ hj)).h⟩, fun j hj => c.new j (List.mem_cons_of_mem _ hj), fun j hj i hi => c.inj j (List.mem_cons_of_mem _ hj) i (List.mem_cons_of_mem _ hi)⟩
    obtain ⟨D2, g2, k2, h2⟩ := LkS.own nr c2 g1
    refine ⟨D2, g2, k1.trans k2, fun j hj => ?_⟩
    rcases List.mem_cons.mp hj with rfl | hj
    · exact k2.q.fx (u := .lst _) True.intro upd_same
    · exact h2 j hj
/-- the dict of the lists -/
abbrev kvR (ks : List Int) (ad : Int → Addr) : List (Key × V) := ks.map fun k => (Sum.inl k, V.ref (ad k))
theorem kvR_at {ks : List Int} {ad : Int → Addr} {H : Hp} : KvsAt (ks.map fun k => ((Sum.inl k : Key), tyV (.ref (ad k)))) (kvR ks ad) H := pr_map _ _ (fun _ => ⟨rfl, rfl⟩) ks
/-- {k: [] for k in ..} -/
theorem dcl_at {wi : TI} {j : Nat} {vs : List Nat} {ks : List Int} {Q : VK} (hi : EvIAt wi σ D H (ks.map tyI)) (nd : ks.Nodup) (hz : ks.length ≤ 100000) (hw : ∀ x, wipe ((wipe σ vs).set j (some x)) vs = wipe σ vs)
    (hj : ∀ x, ((wipe σ vs).set j (some x))[j]? = some (some x))
    (q : ∀ ad Dl D' H', Grow D H D' H' → LkS ks ad (fun _ => []) H D' H' → H Dl = none → D' Dl = some (.dK (kvR ks ad)) → Q (.ref Dl) H') : tDc wi (gName j) tYes (tVar j) (tLst tNil) vs σ H Q := hi _ fun J D2 H2 g2 w Dl hD => by
  refine ⟨fun i m H3 => m = ks.length - i ∧ i ≤ ks.length ∧ ∃ D3 ad, Grow D2 H2 D3 H3 ∧ Loc Dl (.dK (kvR (ks.take i) ad)) D3 H3 ∧ LkS (ks.take i) ad (fun _ => []) H2 D3 H3 ∧ ∀ k ∈ ks.take i, ad k ≠ Dl, ⟨ks.length, by simp, Nat.zero_le _, D2, fun _ => 0, (Grow.refl g2.dh).mut hD (g2.dh.dom hD) nf_dK, Loc.new g2.dh hD, ⟨fun k h => by simp at h, fun k h => by simp at h, fun k h => by simp at h⟩, fun k h => by simp at h⟩, ?_⟩
  rintro i m H3 ⟨rfl, hi3, D3, ad, g3, c3, l3, ne3⟩
  by_cases hlt : i < ks.length
  · have hg : ks[i]? = some ks[i] := by simp [hlt]
    have hm : (ks.map tyI)[i]? = some (tyI ks[i]) := by rw [List.getElem?_map, hg]; rfl
    have tk1 := take_one hg
    refine .inr ⟨w.goes i H3 (g3.d.trans g3.dh) (by rw [List.length_map]; exact hlt), fun H4 => ∃ D4 ad, Grow D2 H2 D4 H4 ∧ Loc Dl (.dK (kvR (ks.take (i + 1)) ad)) D4 H4 ∧ LkS (ks.take (i + 1)) ad (fun _ => []) H2 D4 H4 ∧ ∀ k ∈ ks.take (i + 1), ad k ≠ Dl,
      fun H4 ⟨D4, r⟩ => ⟨ks.length - (i + 1), by omega, rfl, hlt, D4, r⟩, fun x H4 y => ?_⟩
    obtain ⟨D4, g4, tx⟩ := w.yld i _ D3 H3 x H4 g3.d g3.dh hm y
    have tx : x = .int ks[i] := tx
    subst tx
    have c4 := c3.grow (x := .dK _) True.intro g4
    have l4 := l3.grow g4
    refine ⟨hw _, ?_⟩
    refine iteT (B := ∃ D4 ad, Grow D2 H2 D4 H4 ∧ Loc Dl (.dK (kvR (ks.take (i + 1)) ad)) D4 H4 ∧ LkS (ks.take (i + 1)) ad (fun _ => []) H2 D4 H4 ∧ ∀ k ∈ ks.take (i + 1), ad k ≠ Dl) ⟨_, hj _, by decide, fun p hp => ?_⟩
    have hno : (Sum.inl ks[i] : Key) ∉ (kvR (ks.take i) ad).map (·.1) := by
      rw [List.map_map]
      intro hm2
      obtain ⟨y, hy, e⟩ := List.mem_map.mp hm2
      have e : y = ks[i] := Sum.inl.inj e
      exact nd_take (key := fun k => k) (by rw [List.map_id']; exact nd) hg y hy e
    have hnk : ks[i] ∉ ks.take i := fun h => hno (by
      rw [List.map_map]
      exact List.mem_map.mpr ⟨_, h, rfl⟩)
    have hDp : Dl ≠ p := c4.ne_new hp
    have h2p : H2 p = none := (g3.trans g4).h.dom hp
    have d4p : D4 p = none := (g3.trans g4).dh.dom hp
    obtain ⟨af, ad', afp⟩ : ∃ af : Int → Addr, (∀ k ∈ ks.take i, af k = ad k) ∧ af ks[i] = p := ⟨fun k => if k = ks[i] then p else ad k, fun k hk => if_neg fun e => hnk (by rw [← e]; exact hk), if_pos rfl⟩
    have hkv : kvR (ks.take i) af = kvR (ks.take i) ad := List.map_congr_left fun k hk => by rw [ad' k hk]
    have hkv2 : kvR (ks.take (i + 1)) af = kvR (ks.take i) ad ++ [(Sum.inl ks[i], V.ref p)] := by
      rw [tk1, ← hkv, ← afp]
      exact List.map_append
    refine ⟨kvR (ks.take i) ad, .inl ks[i], rfl, by rw [upd_ne hDp]; exact c4.h, ?_, D4, af, ?_, ?_, ⟨?_, ?_, ?_⟩, ?_⟩
    · rw [List.length_map, List.length_take]
      have : (100000 : Nat) < sizeLine := by decide
      omega
    · exact ((g3.trans g4).mut h2p d4p nf_lst).mut hD c4.d nf_dK
    · refine ⟨c4.d, ?_⟩
      rw [upd_same, putK_new _ (valV_no hno), hkv2]
    · intro k hk
      rw [tk1] at hk
      rcases List.mem_append.mp hk with hk | hk
      · have ck := l4.loc k hk
        rw [ad' k hk]
        exact (ck.off (ck.ne_new hp)).off (ne3 k hk)
      · rw [List.mem_singleton.mp hk, afp]
        exact Loc.off ⟨d4p, upd_same⟩ fun e => hDp e.symm
    · intro k hk
      rw [tk1] at hk
      rcases List.mem_append.mp hk with hk | hk
      · rw [ad' k hk]
        exact l4.new k hk
      · rw [List.mem_singleton.mp hk, afp]
        exact h2p
    · intro k hk m hm e
      rw [tk1] at hk hm
      rcases List.mem_append.mp hk with hk | hk
      · rcases List.mem_append.mp hm with hm | hm
        · rw [ad' k hk, ad' m hm] at e
          exact l4.inj k hk m hm e
        · rw [ad' k hk, List.mem_singleton.mp hm, afp] at e
          exact absurd e ((l4.loc k hk).ne_new hp)
      · rcases List.mem_append.mp hm with hm | hm
        · rw [ad' m hm, List.mem_singleton.mp hk, afp] at e
          exact absurd e.symm ((l4.loc m hm).ne_new hp)
        · rw [List.mem_singleton.mp hk, List.mem_singleton.mp hm]
    · intro k hk
      rw [tk1] at hk
      rcases List.mem_append.mp hk with hk | hk
      · rw [ad' k hk]
        exact ne3 k hk
      · rw [List.mem_singleton.mp hk, afp]
        exact hDp.symm
  · have e : i = ks.length := by omega
    subst e
    rw [List.take_length] at c3 l3 ne3
    have st := w.stops H3 (g3.d.trans g3.dh)
    rw [List.length_map] at st
    obtain ⟨g5, k5⟩ := c3.own g3 hD (.inr True.intro)
    have hDl : H Dl = none := g2.h.dom hD
    exact .inl ⟨st, q ad Dl _ H3 (g2.trans g5) ⟨fun k hk => ⟨by
      rw [upd_ne (ne3 k hk)]
      exact (l3.loc k hk).d, (l3.loc k hk).h⟩, fun k hk => g2.h.dom (l3.new k hk), l3.inj⟩ hDl upd_same⟩
theorem sq_dcl {E : Ends} {b : TS} {wi : TI} {i j : Nat} {vs : List Nat} {ks : List Int} (hi : EvIAt wi σ D H (ks.map tyI)) (nd : ks.Nodup) (hz : ks.length ≤ 100000) (hw : ∀ x, wipe ((wipe σ vs).set j (some x)) vs = wipe σ vs)
    (hj : ∀ x, ((wipe σ vs).set j (some x))[j]? = some (some x))
    (q : ∀ ad Dl D' H', Grow D H D' H' → LkS ks ad (fun _ => []) H D' H' → H Dl = none → D' Dl = some (.dK (kvR ks ad)) → b E (σ.set i (some (.ref Dl))) H') : tSeq (tAsg (tDc wi (gName j) tYes (tVar j) (tLst tNil) vs) (gName i)) b E σ H := dcl_at (Q := fun v H' => b E (σ.set i (some v)) H') hi nd hz hw hj q
/-- d[k].append(e), of the lists -/
theorem ev_appendR {l : Addr} {acc : List V} {E : Ends} (e0 : EvAt ta σ D H (tyV (.ref l))) (c : Loc l (.lst acc) D H) (e : ∀ D1 H1, Grow D H D1 H1 → Ev te σ D1 t) (z : acc.length < 100000)
    (q : ∀ v D1 H1, Grow D H D1 H1 → t.p v D1 → Loc l (.lst acc) D1 H1 → E.nx σ (upd H1 l (.lst (acc ++ [v])))) : tDrop (tBM K "list" rAppend ta (tCons te tNil)) E σ H := e0 _ fun v D1 H1 g1 hv => by
  have hv : v = .ref l := hv
  subst hv
  have c1 := c.grow (x := .lst acc) True.intro g1
  exact ⟨.inl ⟨rfl, acc, SqL.of c1.h⟩, (e D1 H1 g1).use g1.dh fun v D2 H2 g tv => ⟨l, acc, v, rfl, rfl, (c1.grow (x := .lst acc) True.intro g).h, Nat.lt_of_lt_of_le z (by decide), q v D2 H2 (g1.trans g) tv (c1.grow (x := .lst acc) True.intro g)⟩⟩
/-- name = {..} on one line, the name a local -/
theorem ps_setDc {X : Cx} {i : Nat} {y : Str} {py : Pos} {kx vx tg iter : Expr} {ifs : List Expr} {scope : Scope} {own : List (Str × Nat)} {pos spos : Pos} {wi : TI} {g : TG} {tt : TT} {tk tv : TE} (hc : X.calm = true) (hN : X.N.Nodup) (hy : X.N[i]? = some y) (hyl : X.env.scope.names.lookup y = some .local)
    (hsw : swapsWith (.DictComp kx vx [⟨tg, iter, ifs, 0⟩] scope pos) (some (.Name y py)) spos.line X.env = pure true) (hi : PI X tg iter wi) (ok : BlkOk X.N X.env.scope scope own)
    (hg : ∀ (s : Shared) (H : Hp) (C : Addr) (cl : List (Str × Addr)) (fp : List Addr), PG (X.blk s H scope (compEnvC scope cl C X.env) fp) tg g) (ht : ∀ (s : Shared) (H : Hp) (C : Addr) (cl : List (Str × Addr)) (fp : List Addr), PTs (X.blk s H scope (compEnvC scope cl C X.env) fp) ifs tt)
    (hk : ∀ (s : Shared) (H : Hp) (C : Addr) (cl : List (Str × Addr)) (fp : List Addr), PE (X.blk s H scope (compEnvC scope cl C X.env) fp) kx tk)
    (he : ∀ (s : Shared) (H : Hp) (C : Addr) (cl : List (Str × Addr)) (fp : List Addr), PE (X.blk s H scope (compEnvC scope cl C X.env) fp) vx tv) (hs : ∀ x, foldedSetIterable iter X.env x = pure x := by intro _; rfl) :
    PS X (.Assign [.Name y py] (.DictComp kx vx [⟨tg, iter, ifs, 0⟩] scope pos) spos) (tAsg (tDc wi g tt tk tv (own.map (·.2))) (gName i)) := by
  refine ⟨fun pins s σ H D I h => ?_⟩
  rw [exec_Assign_Name_used _ _ _ _ hsw]
  refine wpAny_bind (wpAny_standAt (wpAny_bind ?_))
  show wpAny _ X.A (do let _ ← comprehension (.DictComp kx vx [⟨tg, iter, ifs, 0⟩] scope pos) scope X.env (firstIterPos [⟨tg, iter, ifs, 0⟩] pos) newDict false (eval iter X.env) (some (assign (.Name y py) X.env))) _ _ s
  have h : tDc wi g tt tk tv (own.map (·.2)) σ H (fun x H1 => gName i x σ H1 D.nx) := h
  refine wpAny_bind (thn (dc_core (Qf := fun _ s' => SP X pins D .next s') hc hN I hi ok hg ht hk he hs h fun L C s' m H' I' q hn f => ?_) fun _ s' hq => wpAny_pure (wpAny_pure hq))
  show wpAny _ _ (assign (.Name y py) X.env (.ref L)) _ _ _
  refine wpAny_assign_Name (store_ok2 (v := V.ref L) I' hN hy (.inl hyl) rfl (fun s2 I2 ⟨a, sb, ha⟩ => ?_) (.inr hyl))
  obtain ⟨f0, f1, f2, f3, f4, f5⟩ := f
  have haC : C ≠ a := by
    rcases ha with z | z
    · rw [z]; exact f1
    · exact fun e => f4 y a z e.symm
  refine ⟨m, hn.sameBut sb haC, fun h3 sb3 => ?_⟩
  exact ⟨_, H', I2.turned (t' := s2.toks) (fun b o hb e => (sb3.2 b hb).trans e) f0 f1 f3 f4 f5, q⟩
theorem sw_trueD {kx vx : Expr} {gs : List Comprehension} {scope : Scope} {pos py : Pos} {y : Str} {l : Nat} {env : Env} (hk : env.scope.kind = .function) (hy : env.scope.names.lookup y = some .local) (hl : (py.line == pos.line) = true)
    (ha : (scope.names.any fun (n, k) => n == y && (k == .local || k == .cell)) = false) : swapsWith (.DictComp kx vx gs scope pos) (some (.Name y py)) l env = pure true := by
  have ky : env.kindOf y = some .local := hy
  have hb : env.blockKind = .function := by unfold Env.blockKind; rw [hk]; rfl
  unfold swapsWith
  simp only [hb, ky, ha, Expr.pos, hl]
  rfl
/-! ### backwards -/
def bks (p : Pg) : List (Int × Nat) := (rch p).flatMap fun s => p.ls.map fun c => (s, c)
def bk (p : Pg) (k : Int) : List (Int × Nat) := (bks p).filter fun x => decide (p.goal x.1 x.2 = k)
abbrev tyBp (x : Int × Nat) : Ty := tyKey (dkey x)
abbrev tyBack (p : Pg) : Ty := tyD ((rch p).map fun k => ((Sum.inl k : Key), tyL ((bk p k).map tyBp)))
abbrev sp_backwards (K : PySem.W.Frag) : Sp := SpF (fun p : Pg => [tyProg K p]) (fun p => tyBack p) PgOk
def BkI (p : Pg) (v0 : V) (fd : Addr) (ad : Int → Addr) (H0 : Hp) (X : Option V → Prop) (todo : List (Int × Nat)) (s : Sl) (D H : Hp) : Prop := ∃ x1 x3 ct, X x1 ∧ s = [some v0, x1, some (.ref fd), x3] ∧ LkS (rch p) ad ct H0 D H ∧ ∀ k ∈ rch p, TysAt ((todo.filter fun x => decide (p.goal x.1 x.2 = k)).map tyBp) (ct k) D
theorem BkI.grow {p : Pg} {v0 : V} {fd : Addr} {ad : Int → Addr} {H0 : Hp} {X : Option V → Prop} {todo : List (Int × Nat)} {s : Sl} {D1 H1 D2 H2 : Hp} (b : BkI p v0 fd ad H0 X todo s D1 H1) (g : Grow D1 H1 D2 H2) : BkI p v0 fd ad H0 X todo s D2 H2 := by
  obtain ⟨x1, x3, ct, hx, e, l, t⟩ := b
  exact ⟨x1, x3, ct, hx, e, l.grow g, fun k hk => TysAt.up g.d.q (t k hk)⟩
def flatB (p : Pg) (l : List Int) : List (Int × Nat) := l.flatMap fun s => p.ls.map fun c => (s, c)
theorem flatB_len (p : Pg) (l : List Int) : (flatB p l).length = l.length * p.ls.length := by
  unfold flatB
  rw [List.length_flatMap]
  induction l with
  | nil => simp
  | cons a r ih =>
    rw [List.map_cons, List.sum_cons, ih, List.length_cons, List.length_map, Nat.add_mul, Nat.one_mul, Nat.add_comm]
theorem flatB_app (p : Pg) (l : List Int) (s : Int) : flatB p (l ++ [s]) = flatB p l ++ p.ls.map fun c => (s, c) := by
  unfold flatB
  rw [List.flatMap_append]
  simp
theorem pr_mapM {α β γ : Type} {F : α → γ → Prop} (f : β → γ) (g : β → α) : ∀ l : List β, (∀ b ∈ l, F (g b) (f b)) → Paired F (l.map g) (l.map f)
  | [], _ => .nil
  | b :: r, h => .cons (h b List.mem_cons_self) (pr_mapM f g r fun c hc => h c (List.mem_cons_of_mem _ hc))
theorem LkS.lk {ks : List Int} {ad : Int → Addr} {ct : Int → List V} {H0 D H : Hp} {d : Addr} {f x : HO} (c : LkS ks ad ct H0 D H) (h : D d = some x) : LkS ks ad ct (upd H0 d f) (upd D d f) (upd H d f) := by
  have ne : ∀ k ∈ ks, ad k ≠ d := fun k hk e => by
    have := (c.loc k hk).d
    rw [e, h] at this
    cases this
  exact ⟨fun k hk => ⟨by rw [upd_ne (ne k hk)]; exact (c.loc k hk).d, by rw [upd_ne (ne k hk)]; exact (c.loc k hk).h⟩, fun k hk => by rw [upd_ne (ne k hk)]; exact c.new k hk, c.inj⟩
theorem LkS.back {ks : List Int} {ad : Int → Addr} {ct : Int → List V} {H0 D H : Hp} {d : Addr} {f g x : HO} (c : LkS ks ad ct (upd H0 d g) D H) (h : D d = some f) : LkS ks ad ct H0 (upd D d x) (upd H d x) := by
  have ne : ∀ k ∈ ks, ad k ≠ d := fun k hk e => by
    have := (c.loc k hk).d
    rw [e, h] at this
    cases this
  exact ⟨fun k hk => ⟨by rw [upd_ne (ne k hk)]; exact (c.loc k hk).d, by rw [upd_ne (ne k hk)]; exact (c.loc k hk).h⟩, fun k hk => by have := c.new k hk; rw [upd_ne (ne k hk)] at this; exact this, c.inj⟩
theorem cal_backwards (F : Fc K mg) : Cal P w K mg base 2 "backwards" (sp_backwards K) := mk_backwards F (fun _ _ _ _ h => SpF.len (n := 1) (fun _ => rfl) h) fun f cdv A outer s H vs Q E hr h => by
  have nd := sc_backwards.nd
  have hu := Nat.lt_of_le_of_lt (Nat.add_le_add_left (by decide : 1 ≤ 64) _) hr.units
  have c_reached := cal_Program_reached (P := P) (w := w) (base := base) F
  obtain ⟨p, D, o, k, tv, q⟩ := h
  dsimp only at o tv q
  refine ⟨_, (pss_cons (ps_setDc (i := 2) (own := [("state", 1)]) rfl nd rfl rfl (sw_trueD rfl rfl rfl (by decide +kernel)) (k_pi_list (pe_met0 c_reached hr (by decide) (pv 0))) (blkOk_by (N := n_backwards) (sc := defScope s_backwards) (by decide +kernel)) (fun _ _ _ _ _ => (pg_name (i := 1) nd rfl (.inl rfl))) (fun _ _ _ _ _ => pts_nil) (fun _ _ _ _ _ => (pv 1)) (fun _ _ _ _ _ => (pe_lst pa_nil)))
    (pss_cons (ps_lock (ps_for PassesOwn.never rfl (pi_keys (pv 2)) (pg_name (i := 1) nd rfl (.inl rfl)) (pss_one (ps_for PassesOwn.never rfl (pi_str (k_fld (pv 0) rfl)) (pg_name (i := 3) nd rfl (.inl rfl)) (pss_one (ps_expr (pe_bm PySem.F.plainAttrs_list PySem.F.slot_list_append PySem.F.type_list_append mt_append (pe_dget hu (pv 2) (pe_ix k_ix_tup (pe_dget hu (k_fld (pv 0) rfl) (pe_tup (pa_cons (pv 1) (pa_cons (pv 3) pa_nil))) (fun _ _ => rfl)) pe_int (fun _ _ => rfl)) (fun _ _ => rfl)) (pa_cons (pe_tup (pa_cons (pv 1) (pa_cons (pv 3) pa_nil))) pa_nil))))))))
    (pss_one (ps_ret (pv 2))))), ?_⟩
  obtain ⟨v0, rfl, h0⟩ := args1 tv
  have hrl := rch_len p
  have hll := o.lsLen
  have x0 : Ev (tVar 0) (start n_backwards [v0]) D (tyProg K p) := ev_var rfl h0
  refine sq_dcl (σ := start n_backwards [v0]) (i := 2) (j := 1) (vs := [1]) (ks := rch p) (EvI.at_ (evi_list (ev_meth (A := fun p : Pg => [tyProg K p]) (B := fun p => tyL ((rch p).map tyI)) p o rfl (show ("reached" : Str) ∉ [("letters" : Str), "states", "registers", "firsts", "steps", "ends"] from by decide +kernel) x0 ea_nil)).i k) (rch_nd p) (by omega) (fun _ => rfl) (fun _ => rfl) fun ad fd D1 H1 g1 l1 hfd hD1 => ?_
  have nfd : D fd = none := k.dom hfd
  have tfd : (tyD ((rch p).map fun k => ((Sum.inl k : Key), tyV (.ref (ad k))))).p (.ref fd) D1 := ⟨fd, _, rfl, .inl hD1, kvR_at⟩
  refine st_lock (E := { (_ : Ends) with nx := _ }) (D := D1) hD1 (x := .dK (kvR (rch p) ad)) True.intro g1.dh fun od kq1 kp1 => ?_
  refine st_for (D0 := upd D fd (.frz od (.dK (kvR (rch p) ad)))) (H0 := upd H fd (.frz od (.dK (kvR (rch p) ad)))) (xs := rch p) tyI (fun i => BkI p v0 fd ad (upd H fd (.frz od (.dK (kvR (rch p) ad)))) (fun _ => True) (flatB p ((rch p).take i))) BkI.grow (D := upd D1 fd (.frz od (.dK (kvR (rch p) ad)))) (by
    have := (evi_keys (D := upd D1 fd (.frz od (.dK (kvR (rch p) ad)))) (pu_var (σ := [some v0, none, some (.ref fd), none]) (i := 2) rfl) upd_same (kvR_at (ks := rch p) (ad := ad))).i
    rw [List.map_map] at this
    exact this) g1.both ?_ ?_ ?_
  · intro D2 H2 g2
    exact ⟨none, none, fun _ => [], True.intro, rfl, (l1.lk hD1).grow g2, fun k hk => .nil⟩
  · rintro B kb i here hi s1 D2 H2 x kD2 gH2 ⟨x1, x3, ct, _, rfl, l2, t2⟩ tx
    have tx : x = .int here := tx
    subst tx
    have hmem := List.mem_of_getElem? hi
    have hil : i < (rch p).length := (List.getElem?_eq_some_iff.mp hi).1
    have hok := rch_ok o here hmem
    have kk := kb.trans kD2
    refine st_for (D0 := upd D fd (.frz od (.dK (kvR (rch p) ad)))) (H0 := upd H fd (.frz od (.dK (kvR (rch p) ad)))) (xs := p.ls) (fun c => tyS (sign c)) (fun j => BkI p v0 fd ad (upd H fd (.frz od (.dK (kvR (rch p) ad)))) (fun y => y = some (.int here)) (flatB p ((rch p).take i) ++ (p.ls.take j).map fun c => (here, c))) BkI.grow (D := D2) (by
      have := evi_str (ev_fld (ev_var (t := tyProg K p) (i := 0) (σ := [some v0, some (.int here), some (.ref fd), x3]) rfl ((tyProg K p).up (kq1.trans kk.q) ((tyProg K p).up g1.d.q h0))) F.cls_Program F.no_Program_letters rfl)
      rw [txt_list] at this
      exact this.i) gH2 ?_ ?_ ?_
    · intro D3 H3 g3
      refine ⟨some (.int here), x3, ct, rfl, rfl, l2.grow g3, fun k hk => ?_⟩
      rw [List.take_zero, List.map_nil, List.append_nil]
      exact TysAt.up g3.d.q (t2 k hk)
    · rintro B3 kb3 j c hj s3 D3 H3 y kD3 gH3 ⟨y1, y3, ct3, ey, rfl, l3, t3⟩ ty
      subst ey
      have hcm := List.mem_of_getElem? hj
      have hjl : j < p.ls.length := (List.getElem?_eq_some_iff.mp hj).1
      have hdue : (here, c) ∈ due p := due_mem.mpr ⟨hok, hcm⟩
      have hg := rch_clo o here hmem c hcm
      have kk3 := kk.trans (kb3.trans kD3)
      have xs0 : Ev (tVar 0) [some v0, some (.int here), some (.ref fd), some y] D3 (tyProg K p) := ev_var rfl ((tyProg K p).up (kq1.trans kk3.q) ((tyProg K p).up g1.d.q h0))
      have xf : Ev (tVar 2) [some v0, some (.int here), some (.ref fd), some y] D3 (tyD ((rch p).map fun k => ((Sum.inl k : Key), tyV (.ref (ad k))))) := ev_var rfl (Ty.up _ (kq1.trans kk3.q) tfd)
      have xg := ev_op (z := tyI (p.goal here c)) (ev_dgetT (k := dkey (here, c)) (ev_fld xs0 F.cls_Program F.no_Program_steps rfl) (key_tup (x := (here, c)) (ev_var (i := 1) rfl rfl) (ev_var (i := 3) rfl ty)) (tys_step hdue)) (ev_c (v := .int 0)) (rv_ixT (K := K) (i := 0) rfl)
      have ht3 := t3 _ hg
      have hlen : (ct3 (p.goal here c)).length < 100000 := by
        rw [pr_len ht3, List.length_map]
        refine Nat.lt_of_le_of_lt (List.length_filter_le _ _) ?_
        rw [List.length_append, flatB_len, List.length_take, List.length_map, List.length_take]
        have : min i (rch p).length * p.ls.length ≤ 2 * 2 := Nat.mul_le_mul (by omega) hll.2
        omega
      refine ev_appendR (t := tyBp (here, c)) (Ev.at_ (ev_dget (k := .inl (p.goal here c)) xf xg (has_map (fun k : Int => (Sum.inl k : Key)) (fun k => tyV (.ref (ad k))) (fun a b e => Sum.inl.inj e) hg)) gH3.dh) (l3.loc _ hg) (fun D4 H4 g4 => (key_tup (x := (here, c)) (ev_var (i := 1) rfl rfl) (ev_var (i := 3) rfl ty)).up g4.d) hlen fun v D4 H4 g4 tv4 c4 => ?_
      have l4 := (l3.grow g4).put hg (ct3 (p.goal here c) ++ [v])
      refine ⟨D4, kD3.trans g4.d, c4.set (gH3.trans g4) (l3.new _ hg) nf_lst, some (.int here), some y, _, rfl, rfl, l4, fun k hk => ?_⟩
      rw [take_one hj, List.map_append, ← List.append_assoc, List.filter_append, List.map_append]
      by_cases e : k = p.goal here c
      · subst e
        rw [if_pos rfl]
        refine pr_app (TysAt.up g4.d.q (t3 _ hk)) ?_
        rw [List.map_cons, List.map_nil, List.filter_cons, if_pos (by simp)]
        exact .cons tv4 .nil
      · rw [if_neg e, List.map_cons, List.map_nil, List.filter_cons, if_neg (by simp; exact fun z => e z.symm)]
        simp only [List.filter_nil, List.map_nil, List.append_nil]
        exact TysAt.up g4.d.q (t3 _ hk)
    · rintro s3 D3 H3 kD3 gH3 ⟨y1, y3, ct3, ey, rfl, l3, t3⟩
      refine ⟨D3, kD2.trans kD3, gH3, y1, y3, ct3, True.intro, rfl, l3, ?_⟩
      rw [take_one hi, flatB_app]
      rw [List.take_length] at t3
      exact t3
  · rintro s2 D2 H2 kD2 gH2 ⟨x1, x3, ct, _, rfl, l2, t2⟩
    rw [List.take_length] at t2
    have hH : H2 fd = some (.frz od (.dK (kvR (rch p) ad))) := gH2.h.nl.mp upd_same
    have hD : D2 fd = some (.frz od (.dK (kvR (rch p) ad))) := gH2.d.nl.mp upd_same
    refine ⟨hH, ?_⟩
    have gB := gH2.unlk hfd k (x := .dK (kvR (rch p) ad)) True.intro
    obtain ⟨D4, g4, k4, h4⟩ := LkS.own (rch_nd p) (l2.back hD (x := .dK (kvR (rch p) ad))) gB
    refine ⟨.ref fd, rfl, q _ D4 _ g4 ⟨fd, _, rfl, k4.q.sf (u := .dK (kvR (rch p) ad)) True.intro (.inl upd_same), ?_⟩⟩
    refine pr_mapM _ _ _ fun k hk => ⟨rfl, ad k, ct k, rfl, h4 k hk, ?_⟩
    exact TysAt.up k4.q (TysAt.up (kq_unlock (x := .dK (kvR (rch p) ad)) True.intro hD) (t2 k hk))
end
end K02
set_option Elab.async false
set_option linter.all false
set_option maxRecDepth 100000
set_option maxHeartbeats 8000000
namespace K02
open PySem PySem.Spec PyProof.Rows L2 PySem.W
section
variable {P : Program} {w : World} {K : PySem.W.Frag} {mg : Str → Option Value} {base : Heap}
variable {σ : Sl} {D D' H : Hp} {te ta tk tv td : TE} {t u z : Ty} {ts : List Ty}
/-! ### rules -/
theorem k_revL {X : Cx} {e : Expr} {te : TE} {k : Nat} {p1 p2 p3 pos : Pos} (he : PE X e te) (h : X.K = K := by rfl) : PE X (.Subscript e (.Slice none none (some (.UnaryOp .USub (.Constant (.int 1) k p1) p2)) p3) pos) (tRevL K te) := h ▸ pe_revL he
theorem pr_rev {α β : Type} {F : α → β → Prop} {xs : List α} {ys : List β} (h : Paired F xs ys) : Paired F xs.reverse ys.reverse := by
  induction h with
  | nil => exact .nil
  | cons r _ ih =>
    rw [List.reverse_cons, List.reverse_cons]
    exact pr_app ih (.cons r .nil)
theorem ev_revL (e : Ev te σ D (tyL ts)) : Ev (tRevL K te) σ D (tyL ts.reverse) := fun D1 H k h Q q => e D1 H k h _ fun v D2 H2 g2 tv => by
  obtain ⟨a, vs, rfl, ha, hv⟩ := tv
  refine ⟨a, vs, rfl, SqL.of (g2.dh.q.fx (u := .lst _) True.intro ha), fun p hp => q (.ref p) _ _ (g2.add hp (.inl True.intro)) ⟨p, _, rfl, upd_same, ?_⟩⟩
  exact TysAt.up (Kp.new (g2.dh.dom hp) (nofz_of (.inl (show Fixd (.lst _) from True.intro)))).q (pr_rev hv)
theorem valN_in {L : List Ent} {p : Pr} : (valN L p).isSome = decide (p ∈ L.map (·.1)) := by
  by_cases h : p ∈ L.map (·.1)
  · rw [decide_eq_true h]
    unfold valN
    rw [Option.isSome_map]
    obtain ⟨l, hl, e⟩ := List.mem_map.mp h
    rw [List.find?_isSome]
    exact ⟨l, hl, decide_eq_true e⟩
  · rw [decide_eq_false h, valN_none h]
    rfl
theorem tyN_keys {ps : List Pr} {L : List Ent} (h : Paired (fun (l : Ent) p => l.1 = p ∧ l.2.2 = .bl true ∧ PrAt D l.2.1 l.1) L ps) : L.map (·.1) = ps ∧ PrKeys D L := by
  induction h with
  | nil => exact ⟨rfl, fun l hl => by cases hl⟩
  | cons r _ ih =>
    refine ⟨by rw [List.map_cons, ih.1, r.1], fun l hl => ?_⟩
    rcases List.mem_cons.mp hl with rfl | hl
    · exact r.2.2
    · exact ih.2 l hl
/-- p in d -/
theorem ev_nin {ps : List Pr} {p : Pr} (e1 : Ev ta σ D (tyPr p)) (e2 : Ev td σ D (tyN P w ps)) : Ev (tNIn P w ta td) σ D (tyB (decide (p ∈ ps))) := fun D1 H k h Q q => e1 D1 H k h _ fun x D2 H2 g2 tx => e2 D2 H2 (k.trans g2.d) g2.dh _ fun y D3 H3 g3 ty => by
  obtain ⟨qa, rfl, hq⟩ := prAt_ty ((tyPr p).up g3.d.q tx)
  obtain ⟨a, L, rfl, ha, hL⟩ := ty
  obtain ⟨e, pk⟩ := tyN_keys hL
  refine ⟨a, qa, p, L, rfl, rfl, g3.dh.q.sf (u := NDict P w a L) True.intro ha, pk.up g3.dh.q, hq.up g3.dh.q, ?_⟩
  rw [valN_in, e]
  exact q _ D3 H3 (g2.trans g3) rfl

/-! ### check_program, is_listed -/
abbrev sp_check_program (K : PySem.W.Frag) : Sp := SpF (fun p : Pg => [tyProg K p]) (fun _ => tyV .non) (fun _ => True)
theorem cal_check_program (F : Fc K mg) : Cal P w K mg base 1 "check_program" (sp_check_program K) := mk_check_program F (fun _ _ _ _ h => SpF.len (n := 1) (fun _ => rfl) h) fun f cdv A outer s H vs Q E hr h => by
  have nd := sc_check_program.nd
  obtain ⟨p, D, o, k, tv, q⟩ := h
  dsimp only at tv q
  refine ⟨_, (pss_one (ps_if (pt_not (pt_val (pe_callB (C8.call_isC F.ins_P) (by rfl) F.f_isinstance bt_isinstance (pa_cons (pv 0) (pa_cons (pe_glob (v := .ref (He.ga K "Program")) (by rfl) F.g_Program rfl) pa_nil))))) (pss_one ps_never) pss_nil)), ?_⟩
  obtain ⟨v0, rfl, h0⟩ := args1 tv
  exact st_ifN (eb_not (b := true) (eb_B (b := true) (ev_cb (ea_cons (t := tyProg K p) (ev_var rfl h0) (ea_cons ev_c ea_nil)) rc_isC))) k fun D1 H1 g1 => q .non D1 H1 g1 rfl
abbrev sp_is_listed (P : Program) (w : World) : Sp := SpF (fun x : List Pr × Int × List Str => [tyN P w x.1, tyI x.2.1, tyNames x.2.2]) (fun x => tyB (decide x.2.2.Nodup && decide ((x.2.1, sortS x.2.2) ∈ x.1))) (fun x => x.2.2.length ≤ 1000)
theorem cal_is_listed (F : Fc K mg) : Cal P w K mg base 2 "is_listed" (sp_is_listed P w) := mk_is_listed F (fun _ _ _ _ h => SpF.len (n := 3) (fun _ => rfl) h) fun f cdv A outer s H vs Q E hr h => by
  have nd := sc_is_listed.nd
  have c_has_twice := cal_has_twice (P := P) (w := w) (base := base) F
  obtain ⟨⟨ps, st, ns⟩, D, hz, k, tv, q⟩ := h
  dsimp only at hz tv q
  refine ⟨_, (pss_one (ps_ret (pe_and (pe_not (pe_cal c_has_twice hr (by decide) (by rfl) (pa_cons (pv 2) pa_nil))) (pe_one (pe_cmp (pc_nin hr.units (pe_tup (pa_cons (pv 1) (pa_cons (pe_callTy k_tuple_of (by rfl) F.f_tuple bt_tuple (pa_cons (pe_callB (cr_srtL hr.units) (by rfl) F.f_sorted bt_sorted (pa_cons (pv 2) pa_nil)) pa_nil)) pa_nil))) (pv 0))))))), ?_⟩
  obtain ⟨v0, v1, v2, rfl, h0, h1, h2⟩ := args3 tv
  have x2 : Ev (tVar 2) (start n_is_listed [v0, v1, v2]) D (tyNames ns) := ev_var rfl h2
  have lz : (sortS ns).length ≤ 100000 := by rw [(perm_sortS ns).length_eq]; omega
  exact ret_ev (ev_is (t := tyB ((!(!decide ns.Nodup)) && decide ((st, sortS ns) ∈ ps))) (by rw [Bool.not_not]) (ev_andV (ev_notV (ev_call ns hz (ea_cons x2 ea_nil))) fun _ => ev_nin (p := (st, sortS ns)) (ev_tup (ts := [tyI st, tyT ((sortS ns).map tyS)]) (ea_cons (ev_var rfl h1) (ea_cons (ev_cb (ea_cons (ev_cb (ea_cons x2 ea_nil) (rc_srtStrs hz)) ea_nil) rc_tupL) ea_nil))) (ev_var rfl h0))) k q

/-! ### count_of -/
def usesB (rs : List (Str → List Item)) (us : List Str) : List Str := rs.foldr (fun r u => usesOf r u) us
abbrev sp_count_of : Sp := SpF (fun x : List Str × List (Str → List Item) × List Item × Str => [tyL (x.2.1.map fun r => tyRows x.1 r), tyRow x.2.2.1, tyS x.2.2.2]) (fun x => tyI ((usesB x.2.1 (regsOf x.2.2.1)).count x.2.2.2 : Nat))
  (fun x => x.2.2.1.length ≤ 100 ∧ (∀ r ∈ x.2.1, ∀ a ∈ x.1, (r a).length ≤ 100) ∧ ∀ i ≤ x.2.1.length, (∀ a ∈ usesB (x.2.1.drop i) (regsOf x.2.2.1), a ∈ x.1) ∧ (usesB (x.2.1.drop i) (regsOf x.2.2.1)).length ≤ 1000)
theorem cal_count_of (F : Fc K mg) : Cal P w K mg base 3 "count_of" sp_count_of := mk_count_of F (fun _ _ _ _ h => SpF.len (n := 3) (fun _ => rfl) h) fun f cdv A outer s H vs Q E hr h => by
  have nd := sc_count_of.nd
  have hu := Nat.lt_of_le_of_lt (Nat.add_le_add_left (by decide : 1 ≤ 64) _) hr.units
  have c_registers_in := cal_registers_in (P := P) (w := w) (base := base) F
  have c_uses_of := cal_uses_of (P := P) (w := w) (base := base) F
  obtain ⟨⟨regs, rs, row, nm⟩, D, ⟨hr1, hrs, hu2⟩, k, tv, q⟩ := h
  dsimp only at hr1 hrs hu2 tv q
  refine ⟨_, (pss_cons (ps_set (i := 3) nd rfl (.inl rfl) (pe_cal c_registers_in hr (by decide) (by rfl) (pa_cons (pv 1) pa_nil)))
    (pss_cons (ps_for PassesOwn.never rfl (k_pi_list (k_revL (pv 0))) (pg_name (i := 4) nd rfl (.inl rfl)) (pss_one (ps_set (i := 3) nd rfl (.inl rfl) (pe_cal c_uses_of hr (by decide) (by rfl) (pa_cons (pv 4) (pa_cons (pv 3) pa_nil))))))
    (pss_one (ps_ret (k_bm PySem.F.plainAttrs_list PySem.F.slot_list_count PySem.F.type_list_count (k_countS hr.units) (pv 3) (pa_cons (pv 2) pa_nil)))))), ?_⟩
  obtain ⟨v0, v1, v2, rfl, h0, h1, h2⟩ := args3 tv
  refine sq_asg (ev_call row hr1 (ea_cons (ev_var (i := 1) rfl h1) ea_nil)) k fun v3 D1 H1 g1 t3 => ?_
  refine st_for (D0 := D) (H0 := H) (xs := rs.reverse) (D := D1) (fun r => tyRows regs r) (fun i s D H => ∃ vu x4, s = [some v0, some v1, some v2, some vu, x4] ∧ (tyNames (usesB (rs.drop (rs.length - i)) (regsOf row))).p vu D) ?_ (by
    have := evi_list (K := K) (ev_revL (K := K) (ev_var (σ := [some v0, some v1, some v2, some v3, none]) (i := 0) rfl ((tyL (rs.map fun r => tyRows regs r)).up g1.d.q h0)))
    rw [← List.map_reverse] at this
    exact this.i) g1 ?_ ?_ ?_
  · rintro i s D1 H1 D2 H2 ⟨vu, x4, es, th⟩ g
    exact ⟨vu, x4, es, (tyNames _).up g.d.q th⟩
  · intro D2 H2 g2
    refine ⟨v3, none, rfl, ?_⟩
    rw [Nat.sub_zero, List.drop_length]
    exact (tyNames _).up g2.d.q t3
  · rintro B kb i r hir s1 D2 H2 x kD2 gH2 ⟨vu, x4, rfl, th⟩ tx
    have hil : i < rs.length := by
      have := (List.getElem?_eq_some_iff.mp hir).1
      rwa [List.length_reverse] at this
    have hget : rs[rs.length - (i + 1)]? = some r := by
      rw [List.getElem?_reverse hil] at hir
      rw [← hir]
      congr 1
      omega
    have hmem : r ∈ rs := List.mem_of_getElem? hget
    have hdrop : rs.drop (rs.length - (i + 1)) = r :: rs.drop (rs.length - i) := by
      have e : rs.length - i = rs.length - (i + 1) + 1 := by omega
      have hlt : rs.length - (i + 1) < rs.length := by omega
      rw [e, List.drop_eq_getElem_cons hlt]
      rw [List.getElem?_eq_getElem hlt] at hget
      rw [Option.some.inj hget]
    have c1 := hu2 (rs.length - i) (by omega)
    have c2 := hu2 (rs.length - (i + 1)) (by omega)
    rw [hdrop] at c2
    refine st_asg (σ := [some v0, some v1, some v2, some vu, some x]) (ev_call (regs, r, usesB (rs.drop (rs.length - i)) (regsOf row)) ⟨c1.1, hrs r hmem, c2.2⟩ (ea_cons (ev_var (i := 4) rfl tx) (ea_cons (ev_var (t := tySeq ((usesB (rs.drop (rs.length - i)) (regsOf row)).map tyS)) (i := 3) rfl (.inl th)) ea_nil))) gH2.dh fun v5 D3 H3 g3 t5 => ?_
    refine ⟨D3, kD2.trans g3.d, gH2.trans g3, v5, some x, rfl, ?_⟩
    rw [hdrop]
    exact t5
  · rintro s1 D2 H2 kD2 gH2 ⟨vu, x4, rfl, th⟩
    rw [List.length_reverse, Nat.sub_self, List.drop_zero] at th
    exact st_ret (ev_countS (ev_var (t := tyL ((usesB rs (regsOf row)).map tyS)) (i := 3) rfl th) (ev_var (i := 2) rfl ((tyS nm).up (g1.d.trans kD2).q h2))) gH2.dh fun v D4 H4 g4 tv4 => q v D4 H4 (gH2.trans g4) tv4
end
end K02
set_option Elab.async false
set_option linter.all false
set_option maxRecDepth 100000
set_option maxHeartbeats 8000000
namespace K02
open PySem PySem.Spec PyProof.Rows L2 PySem.W
abbrev TP (K : PySem.W.Frag) : Addr := He.ga K "Thrifty"
abbrev WP (K : PySem.W.Frag) : Addr := He.ga K "Twice"
abbrev thrF (ls : List Pr) : List (Str × Ty) := [("lives", tyL (ls.map tyPr))]
abbrev twiF (x : List Nat × List Nat × Str) : List (Str × Ty) := [("text", tyS (txt x.1)), ("rest", tyS (txt x.2.1)), ("name", tyS x.2.2)]
abbrev tyThr (K : PySem.W.Frag) (ls : List Pr) : Ty := tyO (TP K) (thrF ls)
abbrev tyTwi (K : PySem.W.Frag) (x : List Nat × List Nat × Str) : Ty := tyO (WP K) (twiF x)
section
variable {P : Program} {w : World} {K : PySem.W.Frag} {mg : Str → Option Value} {base : Heap}
theorem st_ifB {σ : Sl} {D H : Hp} {c : TT} {a b : TS} {E : Ends} {v : Bool} (e : EvB c σ D v) (k : Kp D H) (hT : v = true → ∀ D1 H1, Grow D H D1 H1 → a E σ H1) (hF : v = false → ∀ D1 H1, Grow D H D1 H1 → b E σ H1) : tIfS c a b E σ H := e.use k fun D1 H1 g => by
  cases v with
  | true => exact iteT (hT rfl D1 H1 g)
  | false => exact iteF (hF rfl D1 H1 g)
theorem sq_ifB {σ : Sl} {D H : Hp} {c : TT} {a b u : TS} {E : Ends} {v : Bool} (e : EvB c σ D v) (k : Kp D H) (hT : v = true → ∀ D1 H1, Grow D H D1 H1 → a { E with nx := u E } σ H1) (hF : v = false → ∀ D1 H1, Grow D H D1 H1 → b { E with nx := u E } σ H1) : tSeq (tIfS c a b) u E σ H := st_ifB (E := { E with nx := u E }) e k hT hF
theorem sq_lock {σ : Sl} {D H : Hp} {ts u : TS} {E : Ends} {d : Addr} {x : HO} (hd : D d = some x) (sx : Soft x) (k : Kp D H) (h : ∀ od, Kq D (upd D d (.frz od x)) → Kp (upd D d (.frz od x)) (upd H d (.frz od x)) → ts (LkE d od x { E with nx := u E }) σ (upd H d (.frz od x))) : tSeq (tLock ts) u E σ H := st_lock (E := { E with nx := u E }) hd sx k h
theorem regsOf_len : ∀ row : List Item, (regsOf row).length ≤ row.length := fun row => List.length_filterMap_le ..
theorem uses_len {g : Str → List Item} {live : List Str} {z : Nat} (h : ∀ r ∈ live, (g r).length ≤ z) : (usesOf g live).length ≤ live.length * z := by
  induction live with
  | nil => simp [usesOf]
  | cons a r ih =>
    have e : usesOf g (a :: r) = regsOf (g a) ++ usesOf g r := rfl
    rw [e, List.length_append, List.length_cons, Nat.add_mul, Nat.one_mul, Nat.add_comm]
    exact Nat.add_le_add (ih fun x hx => h x (List.mem_cons_of_mem _ hx)) (Nat.le_trans (regsOf_len _) (h a List.mem_cons_self))
theorem PgOk.usesLen {p : Pg} (o : PgOk p) {x : Int × Nat} (hx : x ∈ due p) : (usesOf (p.row x.1 x.2) p.regs).length ≤ 10 := by
  have h1 := uses_len (g := p.row x.1 x.2) (live := p.regs) (z := 5) fun r hr => (o.row x hx r hr).1
  have h2 := o.regsLen
  have := Nat.mul_le_mul_right 5 h2
  omega
/-! ### is_plain -/
def plainP (p : Pg) : Bool := (due p).all (fun x => decide (usesOf (p.row x.1 x.2) p.regs).Nodup) && (ens p).all (fun s => decide (regsOf (enr p s)).Nodup)
abbrev sp_is_plain (K : PySem.W.Frag) : Sp := SpN (fun p : Pg => [tyProg K p]) (fun p => tyB (plainP p)) PgOk
theorem all_take {α : Type} {f : α → Bool} {l : List α} {i : Nat} {a : α} (h : l[i]? = some a) (h1 : (l.take i).all f = true) (h2 : f a = true) : (l.take (i + 1)).all f = true := by
  rw [take_one h, List.all_append, h1]
  simp [h2]
theorem cal_is_plain (F : Fc K mg) : Cal P w K mg base 2 "is_plain" (sp_is_plain K) := mk_is_plain F (fun _ _ _ _ h => SpN.len (n := 1) (fun _ => rfl) h) fun f cdv A outer s H vs Q E hr h => by
  have nd := sc_is_plain.nd
  have hu := Nat.lt_of_le_of_lt (Nat.add_le_add_left (by decide : 1 ≤ 64) _) hr.units
  have c_check_program := cal_check_program (P := P) (w := w) (base := base) F
  have c_has_twice := cal_has_twice (P := P) (w := w) (base := base) F
  have c_registers_in := cal_registers_in (P := P) (w := w) (base := base) F
  obtain ⟨p, D, o, nl, k, tv, q⟩ := h
  dsimp only at o tv q
  refine ⟨_, (pss_cons (ps_expr (pe_cal c_check_program hr (by decide) (by rfl) (pa_cons (pv 0) pa_nil)))
    (pss_cons (ps_lock (ps_for PassesOwn.never rfl (pi_valuesT (k_fld (pv 0) rfl)) (k_pg_tup (n := 2) rfl (pgs_cons (pg_name (i := 1) nd rfl (.inl rfl)) (pgs_cons (pg_name (i := 2) nd rfl (.inl rfl)) pgs_nil))) (pss_one (ps_if (pt_val (pe_cal c_has_twice hr (by decide) (by rfl) (pa_cons (pe_lock (pe_lc2 (own := [("row", 3), ("name", 4)]) (vs1 := [4]) rfl nd (pi_values (pv 2)) (blkOk_by (N := n_is_plain) (sc := defScope s_is_plain) (by decide +kernel)) (by decide) (fun _ _ _ _ _ => (pg_name (i := 3) nd rfl (.inl rfl))) (fun _ _ _ _ _ => pts_nil) (fun _ _ _ _ _ => (k_pi_list (pe_cal c_registers_in hr (by decide) (by rfl) (pa_cons (pv 3) pa_nil)))) (fun _ _ _ _ _ => (pg_name (i := 4) nd rfl (.inl rfl))) (fun _ _ _ _ _ => pts_nil) (fun _ _ _ _ _ => (pv 4)))) pa_nil))) (pss_one (ps_ret pe_bl)) pss_nil))))
    (pss_one (ps_ret (pe_not (pe_callB (k_any rfl) (by rfl) F.f_any bt_any (pa_cons (pe_lock (pe_lc (own := [("row", 3)]) rfl nd (pi_values (k_fld (pv 0) rfl)) (blkOk_by (N := n_is_plain) (sc := defScope s_is_plain) (by decide +kernel)) (fun _ _ _ _ _ => (pg_name (i := 3) nd rfl (.inl rfl))) (fun _ _ _ _ _ => pts_nil) (fun _ _ _ _ _ => (pe_cal c_has_twice hr (by decide) (by rfl) (pa_cons (pe_cal c_registers_in hr (by decide) (by rfl) (pa_cons (pv 3) pa_nil)) pa_nil))))) pa_nil))))))), ?_⟩
  obtain ⟨v0, rfl, h0⟩ := args1 tv
  refine sq_drop (σ := [some v0, none, none, none, none]) (ev_call p True.intro (ea_cons (ev_var (i := 0) rfl h0) ea_nil)) k fun D1 H1 g1 => ?_
  have h1 := (tyProg K p).up g1.d.q h0
  have nl1 := nl.up g1.d
  obtain ⟨vS, pS, tS⟩ := pu_fld (f := "steps") (pu_var (σ := [some v0, none, none, none, none]) (i := 0) rfl) h1 F.cls_Program F.no_Program_steps rfl
  obtain ⟨d, kvs, rfl, hd, hv⟩ := tyE_at nl1 tS
  refine sq_lock (D := D1) hd True.intro g1.dh fun od kq1 kp1 => ?_
  refine st_for (D0 := upd D1 d (.frz od (.dT kvs))) (H0 := upd H1 d (.frz od (.dT kvs))) (xs := due p) (D := upd D1 d (.frz od (.dT kvs))) (fun x => tyStep p.regs (p.goal x.1 x.2, p.row x.1 x.2)) (fun i s D H => ∃ x1 x2, s = [some v0, x1, x2, none, none] ∧ ((due p).take i).all (fun x => decide (usesOf (p.row x.1 x.2) p.regs).Nodup) = true) (fun z _ => z) (by
    have := (evi_valsT (pS.up kq1) upd_same (KvsAt.up kq1 hv)).i
    rw [List.map_map] at this
    exact this) (Grow.refl kp1) (fun D2 H2 g2 => ⟨none, none, rfl, rfl⟩) ?_ ?_
  · rintro B kb i x hi s1 D2 H2 y kD2 gH2 ⟨x1, x2, rfl, hall⟩ tx
    have hdue := List.mem_of_getElem? hi
    have kk := kb.trans kD2
    refine ga_2 gH2.dh tx fun u1 u2 t1 t2 => ?_
    have nlk : NoLkK D2 := (nl1.k.lkT (d := d) (od := od) (l := kvs)).up kk
    have hz : (usesOf (p.row x.1 x.2) p.regs).length ≤ 1000 := Nat.le_trans (o.usesLen hdue) (by decide)
    refine st_ifB (v := !decide (usesOf (p.row x.1 x.2) p.regs).Nodup) (eb_B (ev_call (B := fun ns => tyB (!decide ns.Nodup)) (usesOf (p.row x.1 x.2) p.regs) hz (ea_cons (ev_lockK nlk (pu_var (i := 2) rfl) t2 fun D6 d6 od6 kvs6 kq6 ed6 pd6 hd6 hv6 => ?_) ea_nil))) gH2.dh (fun hb D3 H3 g3 => ?_) (fun hb D3 H3 g3 => ?_)
    · have hvs := evi_vals pd6 hd6 hv6
      rw [List.map_map] at hvs
      refine ev_is (by rw [flat_tys]) (ev_lc2 (τ := fun r => tyRow (p.row x.1 x.2 r)) (ys := fun r => regsOf (p.row x.1 x.2 r)) (τ1 := fun _ => tyS) (out := fun _ => tyS) hvs.i (Nat.le_trans (o.usesLen hdue) (by decide)) (fun x => rfl) (fun x y => rfl) (fun r hr2 D1 k1 x hx => ?_) fun r hr2 D1 k1 x hx b hb y hy => ev_var (i := 4) rfl hy)
      exact (evi_list (ev_call (p.row _ _ r) (Nat.le_trans (o.row _ hdue r hr2).1 (by decide)) (ea_cons (ev_var (i := 3) rfl hx) ea_nil))).i
    · refine st_ret (t := tyB false) ev_c g3.dh fun v D4 H4 g4 t4 => ?_
      obtain ⟨z1, z2, z3, z4⟩ := unlock (x := .dT kvs) True.intro hd (g1.dh.exact (u := .dT kvs) True.intro hd) (gH2.trans (g3.trans g4))
      refine ⟨z1, q v _ _ (g1.trans z3) ?_⟩
      have t4 : v = .bl false := t4
      subst t4
      have : plainP p = false := by
        unfold plainP
        rw [List.all_eq_false.mpr ⟨x, hdue, by simpa using hb⟩]
        rfl
      show V.bl false = .bl (plainP p)
      rw [this]
    · exact ⟨D3, kD2.trans g3.d, gH2.trans g3, _, _, rfl, all_take hi hall (by simpa using hb)⟩
  · rintro s1 D2 H2 kD2 gH2 ⟨x1, x2, rfl, hall⟩
    rw [List.take_length] at hall
    obtain ⟨z1, z2, z3, z4⟩ := unlock (x := .dT kvs) True.intro hd (g1.dh.exact (u := .dT kvs) True.intro hd) gH2
    refine ⟨z1, ?_⟩
    have gg := g1.trans z3
    have nl3 := nl.up gg.d
    obtain ⟨vE, pE, tE⟩ := pu_fld (f := "ends") (pu_var (σ := [some v0, x1, x2, none, none]) (i := 0) rfl) ((tyProg K p).up gg.d.q h0) F.cls_Program F.no_Program_ends rfl
    dsimp only
    refine st_ret (t := tyB (plainP p)) ?_ gg.dh fun v D4 H4 g4 t4 => q v D4 H4 (gg.trans g4) t4
    have e : plainP p = !((ens p).any fun s => !decide (regsOf (enr p s)).Nodup) := by
      unfold plainP
      rw [hall, Bool.true_and, List.not_any_eq_all_not]
      simp
    rw [e]
    refine ev_notV (ev_cb (ea_cons (ev_lockK nl3.k pE tE fun D6 d6 od6 kvs6 kq6 ed6 pd6 hd6 hv6 => ?_) ea_nil) rc_anyF)
    have hvs := evi_vals pd6 hd6 hv6
    rw [List.map_map] at hvs
    refine ev_lcm (fun s => tyRow (enr p s)) _ hvs.i (by have := ens_len o; omega) fun s hs D7 k7 x hx => lcel rfl (ev_call (regsOf (enr p s)) (Nat.le_trans (Nat.le_trans (regsOf_len _) (o.en s hs).1) (by decide)) (ea_cons (ev_call (enr p s) (Nat.le_trans (o.en s hs).1 (by decide)) (ea_cons (ev_var (i := 3) rfl hx) ea_nil)) ea_nil))

/-! ### evidence: made, true or not -/
def SpJ {α : Type} (C : Addr) (A : α → List Ty) (B : α → List (Str × Ty)) (Cn : α → Prop) : Sp := fun vs H Q _ => ∃ x a dx ws D D0 H0, vs = .ref a :: ws ∧ Cn x ∧ Grow D0 H0 D H ∧ H0 a = none ∧ Loc a (.ins C dx []) D H ∧ TysAt (A x) ws D ∧
  ∀ D' H' fs, Grow D0 H0 D' H' → Loc a (.ins C dx fs) D' H' → KvsAt (B x) fs D' → Q .non H'
theorem SpJ.len {α : Type} {C : Addr} {A : α → List Ty} {B : α → List (Str × Ty)} {Cn : α → Prop} {n : Nat} (hn : ∀ x, (A x).length = n) {vs : List V} {H : Hp} {Q : VK} {E : XK} (h : SpJ C A B Cn vs H Q E) : vs.length = n + 1 := by
  obtain ⟨x, a, dx, ws, D, D0, H0, rfl, _, _, _, _, h, _⟩ := h
  rw [List.length_cons, pr_len h, hn]
theorem ev_makeJ {σ : Sl} {D : Hp} {α : Type} {C : Addr} {A : α → List Ty} {B : α → List (Str × Ty)} {Cn : α → Prop} {E : XK} {ta : TA} (x : α) (c : Cn x) (e : EvA ta σ D (A x)) : Ev (tMake C (SpJ C A B Cn) [] E ta) σ D (tyO C (B x)) := fun D1 H k h Q q =>
  e D1 H k h _ fun vs D2 H2 g2 tv a dx ha hdx ne => by
    rw [List.append_nil]
    have g3 := (Grow.refl g2.dh).add (u := .own a) hdx (.inl True.intro)
    have ha2 : upd H2 dx (.own a) a = none := by rw [upd_ne (fun z => ne z.symm)]; exact ha
    have g4 := g3.mut ha (g3.dh.dom ha2) (nf_ins (C := C) (dx := dx) (fs := []))
    refine ⟨x, a, dx, vs, _, D2, H2, rfl, c, g4, ha, ⟨g3.dh.dom ha2, upd_same⟩, TysAt.up g4.d.q tv, fun D' H' fs g5 c5 kv => ⟨rfl, ?_⟩⟩
    obtain ⟨g6, k6⟩ := c5.own g5 ha (.inl True.intro)
    exact q (.ref a) _ H' (g2.trans g6) ⟨a, dx, fs, rfl, upd_same, KvsAt.up k6.q kv⟩
abbrev sp_Thrifty_init (K : PySem.W.Frag) : Sp := SpJ (TP K) (fun ls : List Pr => [tySeq (ls.map tyPr)]) thrF (fun ls => ls.length ≤ 1000)
theorem cal_Thrifty_init (F : Fc K mg) : Mak P w K mg base 1 "Thrifty" (TP K) (sp_Thrifty_init K) := mk_Thrifty_init F (fun _ _ _ _ h => SpJ.len (n := 1) (fun _ => rfl) h) fun f cdv A outer s H vs Q E hr h => by
  have nd := sc_Thrifty_init.nd
  obtain ⟨ls, a, dx, ws, D, D0, H0, rfl, hz, g, h0, cL, tv, q⟩ := h
  dsimp only at hz tv q
  refine ⟨_, (pss_one (ps_fld (pv 0) (pe_lc (own := [("state", 2), ("names", 3)]) rfl nd (k_pi_seq (pv 1)) (blkOk_by (N := n_Thrifty_init) (sc := defScope s_Thrifty_init) (by decide +kernel)) (fun _ _ _ _ _ => (k_pg_tup (n := 2) rfl (pgs_cons (pg_name (i := 2) nd rfl (.inl rfl)) (pgs_cons (pg_name (i := 3) nd rfl (.inl rfl)) pgs_nil)))) (fun _ _ _ _ _ => pts_nil) (fun _ _ _ _ _ => (pe_tup (pa_cons (pv 2) (pa_cons (pe_callTy k_tuple_of (by rfl) F.f_tuple bt_tuple (pa_cons (pv 3) pa_nil)) pa_nil))))) rfl)), ?_⟩
  obtain ⟨v1, rfl, h1⟩ := args1 tv
  refine st_fld (σ := [some (.ref a), some v1, none, none]) (t := tyL (ls.map tyPr)) rfl cL (Ev.at_ (ev_lcm tyPr tyPr (evi_seq (ev_var (i := 1) rfl h1)).i (Nat.le_trans hz (by decide)) fun x hx D1 k1 y hy => ?_) g.dh) g h0 .nil F.cls_Thrifty F.no_Thrifty_lives (by simp) (by simp) fun v D1 H1 k1 g1 c1 kv => q D1 H1 _ g1 c1 kv
  intro H1 h1 QY QN hq _
  refine ga_2 h1 hy fun u1 u2 t1 t2 => ⟨rfl, ?_⟩
  refine iteT (B := QN H1) ?_
  exact (ev_tup (σ := [some (.ref a), some v1, some u1, some u2]) (ts := [tyI x.1, tyT (x.2.map tyS)]) (ea_cons (ev_var (i := 2) rfl t1) (ea_cons (ev_cb (ea_cons (ev_var (i := 3) rfl t2) ea_nil) rc_tupT) ea_nil))).use h1 fun v D3 H3 g3 tv3 => hq (tyPr x) rfl v D3 H3 g3 tv3
abbrev sp_Twice_init (K : PySem.W.Frag) : Sp := SpJ (WP K) (fun x : List Nat × List Nat × Str => [tyS (txt x.1), tyS (txt x.2.1), tyS x.2.2]) twiF (fun _ => True)
theorem cal_Twice_init (F : Fc K mg) : Mak P w K mg base 1 "Twice" (WP K) (sp_Twice_init K) := mk_Twice_init F (fun _ _ _ _ h => SpJ.len (n := 3) (fun _ => rfl) h) fun f cdv A outer s H vs Q E hr h => by
  have nd := sc_Twice_init.nd
  obtain ⟨x, a, dx, ws, D, D0, H0, rfl, hz, g, h0, cL, tv, q⟩ := h
  dsimp only at hz tv q
  refine ⟨_, (pss_cons (ps_fld (pv 0) (pv 1) rfl)
    (pss_cons (ps_fld (pv 0) (pv 2) rfl)
    (pss_one (ps_fld (pv 0) (pv 3) rfl)))), ?_⟩
  obtain ⟨v1, v2, v3, rfl, h1, h2, h3⟩ := args3 tv
  refine sq_fld (σ := [some (.ref a), some v1, some v2, some v3]) (t := tyS (txt x.1)) rfl cL (Ev.at_ (ev_var (i := 1) rfl h1) g.dh) g h0 .nil F.cls_Twice F.no_Twice_text (by simp) (by simp) fun w1 D1 H1 k1 g1 c1 kv1 => ?_
  refine sq_fld (σ := [some (.ref a), some v1, some v2, some v3]) (t := tyS (txt x.2.1)) rfl c1 (Ev.at_ (ev_var (i := 2) rfl h2) g1.dh) g1 h0 kv1 F.cls_Twice F.no_Twice_rest (by simp) (by simp; decide +kernel) fun w2 D2 H2 k2 g2 c2 kv2 => ?_
  exact st_fld (σ := [some (.ref a), some v1, some v2, some v3]) (t := tyS x.2.2) rfl c2 (Ev.at_ (ev_var (i := 3) rfl h3) g2.dh) g2 h0 kv2 F.cls_Twice F.no_Twice_name (by simp) (by simp; decide +kernel) fun w3 D3 H3 k3 g3 c3 kv3 => q D3 H3 _ g3 c3 kv3
abbrev sp_Thrifty_bool (K : PySem.W.Frag) : Sp := SpF (fun ls : List Pr => [tyThr K ls]) (fun _ => tyB true) (fun _ => True)
theorem cal_Thrifty_bool (F : Fc K mg) : Met P w K mg base 1 (TP K) "__bool__" (sp_Thrifty_bool K) := mk_Thrifty_bool F (fun _ _ _ _ h => SpF.len (n := 1) (fun _ => rfl) h) fun f cdv A outer s H vs Q E hr h => by
  obtain ⟨x, D, hc, k, tv, q⟩ := h
  exact ⟨_, (pss_one (ps_ret pe_bl)), ret_ev ev_c k q⟩
abbrev sp_Twice_bool (K : PySem.W.Frag) : Sp := SpF (fun x : List Nat × List Nat × Str => [tyTwi K x]) (fun _ => tyB false) (fun _ => True)
theorem cal_Twice_bool (F : Fc K mg) : Met P w K mg base 1 (WP K) "__bool__" (sp_Twice_bool K) := mk_Twice_bool F (fun _ _ _ _ h => SpF.len (n := 1) (fun _ => rfl) h) fun f cdv A outer s H vs Q E hr h => by
  obtain ⟨x, D, hc, k, tv, q⟩ := h
  exact ⟨_, (pss_one (ps_ret pe_bl)), ret_ev ev_c k q⟩
end
end K02
set_option Elab.async false
set_option linter.all false
set_option maxRecDepth 100000
set_option maxHeartbeats 8000000
namespace K02
open PySem PySem.Spec PyProof.Rows L2 PySem.W
section
variable {P : Program} {w : World} {K : PySem.W.Frag} {mg : Str → Option Value} {base : Heap}
variable {σ : Sl} {D D' H : Hp} {te ta tb tk tv td : TE} {t u z : Ty} {ts : List Ty}
/-! ### rules at the heap as it is -/
theorem ev_opA {r : R2} (ea : EvAt ta σ D H t) (eb : ∀ D1 H1, Grow D H D1 H1 → EvAt tb σ D1 H1 u) (hr : RV r t u z) : EvAt (tOp r ta tb) σ D H z := fun Q q =>
  ea _ fun x D2 H2 g2 tx => eb D2 H2 g2 _ fun y D3 H3 g3 ty => hr x y D3 H3 g3.dh (t.up g3.d.q tx) ty Q fun v D4 H4 g4 tz => q v D4 H4 ((g2.trans g3).trans g4) tz
theorem get_loc {i : Nat} {d : Addr} {acc : List (Key × V)} {k : Key} {v : V} (hd : σ[i]? = some (some (.ref d))) (c : Loc d (.dK acc) D H) (ek : Ev tk σ D (tyV (kV k))) (kp : Kp D H) (hv : valV acc k = some v) : EvAt (tDGet (tVar i) tk) σ D H (tyV v) := fun Q q =>
  ⟨.ref d, hd, ek.use kp fun y D1 H1 g1 hy => by
    have hy : y = kV k := hy
    subst hy
    have c1 := c.grow (x := .dK acc) True.intro g1
    refine ⟨d, v, rfl, ?_, q v D1 H1 g1 rfl⟩
    rw [← hv]
    exact DGet.k c1.h⟩
theorem valV_map {f : Int → V} {ks : List Int} {k : Int} (h : k ∈ ks) : valV (ks.map fun x => ((Sum.inl x : Key), f x)) (.inl k) = some (f k) := by
  induction ks with
  | nil => cases h
  | cons a r ih =>
    by_cases e : a = k
    · subst e
      exact valV_pos rfl
    · rw [List.map_cons]
      refine (valV_neg (fun z => e (Sum.inl.inj z))).trans (ih ?_)
      rcases List.mem_cons.mp h with z | z
      · exact absurd z.symm e
      · exact z
theorem sq_dputA {E : Ends} {i : Nat} {d : Addr} {acc : List (Key × V)} {k : Key} {b : TS} (hd : σ[i]? = some (some (.ref d))) (c : Loc d (.dK acc) D H) (ev : EvAt tv σ D H t) (ek : Ev tk σ D (tyV (kV k))) (z : acc.length < 100000) (no : k ∉ acc.map (·.1))
    (q : ∀ v D1 H1, Grow D H D1 H1 → t.p v D1 → Loc d (.dK acc) D1 H1 → b E σ (upd H1 d (.dK (acc ++ [(k, v)])))) : tSeq (sDPut (tVar i) tk tv) b E σ H :=
  ev _ fun v D1 H1 g1 hv => ⟨.ref d, hd, (ek.up g1.d).use g1.dh fun y D2 H2 g2 hy => by
    have hy : y = kV k := hy
    subst hy
    have c2 := c.grow (x := .dK acc) True.intro (g1.trans g2)
    have hp : putK acc k v = acc ++ [(k, v)] := putK_new v (valV_no no)
    refine ⟨d, upd H2 d (.dK (acc ++ [(k, v)])), rfl, ?_, q v D2 H2 (g1.trans g2) (t.up g2.d.q hv) c2⟩
    rw [← hp]
    exact DPut.k c2.h (Nat.lt_of_lt_of_le z (by decide))⟩
/-- x = l.pop(0) -/
theorem sq_pop0 {E : Ends} {i j : Nat} {l : Addr} {acc : List V} {y : V} {b : TS} (hl : σ[i]? = some (some (.ref l))) (c : Loc l (.lst (y :: acc)) D H) (q : b E (σ.set j (some y)) (upd H l (.lst acc))) : tSeq (tAsg (tBM K "list" rPopAt (tVar i) (tCons (tC (.int 0)) tNil)) (gName j)) b E σ H :=
  ⟨.ref l, hl, .inl ⟨rfl, _, SqL.of c.h⟩, rPop0 c.h q⟩
theorem txt_app (cs : List Nat) (c : Nat) : txt (cs ++ [c]) = txt cs ++ sign c := by
  show Str.mk (cs ++ [c]).toArray = Str.mk (cs.toArray ++ #[c])
  simp

/-! ### first_text -/
structure FtI (p : Pg) (ks : List Int) (tr : Int → List Nat) : Prop where
  nd : ks.Nodup
  zero : 0 ∈ ks
  t0 : tr 0 = []
  ok : ∀ k ∈ ks, 0 ≤ k ∧ k < p.n
  tx : ∀ k ∈ ks, runS p 0 (tr k) = k ∧ (tr k).length ≤ 1 ∧ ∀ c ∈ tr k, c ∈ p.ls
abbrev kvTr (ks : List Int) (tr : Int → List Nat) : List (Key × V) := ks.map fun k => (Sum.inl k, V.str (txt (tr k)))
theorem FtI.new {p : Pg} (o : PgOk p) {ks : List Int} {tr : Int → List Nat} (f : FtI p ks tr) {c : Nat} (hc : c ∈ p.ls) (h : p.goal 0 c ∉ ks) : ∃ t2, FtI p (ks ++ [p.goal 0 c]) t2 ∧ kvTr (ks ++ [p.goal 0 c]) t2 = kvTr ks tr ++ [(Sum.inl (p.goal 0 c), V.str (txt [c]))] := by
  have hn := o.nLe
  have ne : ∀ k ∈ ks, k ≠ p.goal 0 c := fun k hk e => h (by rw [← e]; exact hk)
  obtain ⟨t2, ht, hp⟩ : ∃ t2 : Int → List Nat, (∀ k ∈ ks, t2 k = tr k) ∧ t2 (p.goal 0 c) = [c] := ⟨fun k => if k = p.goal 0 c then [c] else tr k, fun k hk => if_neg (ne k hk), if_pos rfl⟩
  refine ⟨t2, ⟨?_, List.mem_append_left _ f.zero, ?_, fun k hk => ?_, fun k hk => ?_⟩, ?_⟩
  · exact List.nodup_append.mpr ⟨f.nd, by simp, fun a ha b hb e => h (by simp at hb; rw [← hb, ← e]; exact ha)⟩
  · rw [ht 0 f.zero, f.t0]
  · rcases List.mem_append.mp hk with hk | hk
    · exact f.ok k hk
    · rw [List.mem_singleton.mp hk]
      exact o.goal (0, c) (due_mem.mpr ⟨by constructor <;> simp; omega, hc⟩)
  · rcases List.mem_append.mp hk with hk | hk
    · rw [ht k hk]
      exact f.tx k hk
    · rw [List.mem_singleton.mp hk, hp]
      exact ⟨rfl, Nat.le_refl _, fun d hd => by rw [List.mem_singleton.mp hd]; exact hc⟩
  · have e1 : kvTr ks t2 = kvTr ks tr := List.map_congr_left fun k hk => by rw [ht k hk]
    rw [← e1, ← hp]
    exact List.map_append
def tyFt (p : Pg) (goal : Int) : Ty := ⟨fun v _ => ∃ cs, v = .str (txt cs) ∧ runS p 0 cs = goal ∧ cs.length ≤ 1 ∧ ∀ c ∈ cs, c ∈ p.ls, fun _ h => h⟩
abbrev sp_first_text (K : PySem.W.Frag) : Sp := SpF (fun x : Pg × Int => [tyProg K x.1, tyI x.2]) (fun x => tyFt x.1 x.2) (fun x => PgOk x.1 ∧ x.2 ∈ rch x.1)
def FtW (p : Pg) (v0 : V) (goal : Int) (fd wl : Addr) (m : Nat) (s : Sl) (D H : Hp) : Prop := ∃ (ks : List Int) (tr : Int → List Nat) (ws : List Int) (x4 x5 x6 : Option V), s = [some v0, some (.int goal), some (.ref fd), some (.ref wl), x4, x5, x6] ∧ Loc fd (.dK (kvTr ks tr)) D H ∧ Loc wl (.lst (ws.map V.int)) D H ∧ FtI p ks tr ∧ ((m = 1 ∧ ks = [0] ∧ ws = [0]) ∨ (m = 0 ∧ goal ∈ ks))
def FtJ (p : Pg) (v0 : V) (goal : Int) (fd wl : Addr) (i : Nat) (s : Sl) (D H : Hp) : Prop := ∃ (ks : List Int) (tr : Int → List Nat) (ws : List Int) (x5 x6 : Option V), s = [some v0, some (.int goal), some (.ref fd), some (.ref wl), some (.int 0), x5, x6] ∧ Loc fd (.dK (kvTr ks tr)) D H ∧ Loc wl (.lst (ws.map V.int)) D H ∧ FtI p ks tr ∧ ws.length ≤ i ∧ ∀ c ∈ p.ls.take i, p.goal 0 c ∈ ks
theorem cal_first_text (F : Fc K mg) : Cal P w K mg base 1 "first_text" (sp_first_text K) := mk_first_text F (fun _ _ _ _ h => SpF.len (n := 2) (fun _ => rfl) h) fun f cdv A outer s H vs Q E hr h => by
  have nd := sc_first_text.nd
  have hu := Nat.lt_of_le_of_lt (Nat.add_le_add_left (by decide : 1 ≤ 64) _) hr.units
  obtain ⟨⟨p, goal⟩, D, ⟨o, hgoal⟩, k, tv, q⟩ := h
  dsimp only at o hgoal tv q
  refine ⟨_, (pss_cons (ps_par (i := 2) (j := 3) rfl nd rfl rfl (by decide) rfl rfl (pa_cons (pe_disp (pps_cons pe_int pe_str pps_nil) rfl rfl (by decide) (by decide)) (pa_cons (pe_lst (pa_cons pe_int pa_nil)) pa_nil)) rfl)
    (pss_cons (ps_while PassesOwn.never (pt_cmp (pc_dnotin hu (pv 1) (pv 2))) (pss_cons (ps_set (i := 4) nd rfl (.inl rfl) (pe_bm PySem.F.plainAttrs_list PySem.F.slot_list_pop PySem.F.type_list_pop mt_popAt (pv 3) (pa_cons pe_int pa_nil)))
      (pss_one (ps_for PassesOwn.never rfl (pi_str (k_fld (pv 0) rfl)) (pg_name (i := 5) nd rfl (.inl rfl)) (pss_cons (ps_set (i := 6) nd rfl (.inl rfl) (pe_ix k_ix_tup (pe_dget hu (k_fld (pv 0) rfl) (pe_tup (pa_cons (pv 4) (pa_cons (pv 5) pa_nil))) (fun _ _ => rfl)) pe_int (fun _ _ => rfl)))
        (pss_one (ps_if (pt_cmp (pc_dnotin hu (pv 6) (pv 2))) (pss_cons (ps_dput hu (pv 2) (pv 6) (pe_op op_add_str (pe_dget hu (pv 2) (pv 4) (fun _ _ => rfl)) (pv 5)) rfl)
          (pss_one (ps_expr (pe_bm PySem.F.plainAttrs_list PySem.F.slot_list_append PySem.F.type_list_append mt_append (pv 3) (pa_cons (pv 6) pa_nil))))) pss_nil)))))))
    (pss_one (ps_ret (pe_dget hu (pv 2) (pv 1) (fun _ _ => rfl)))))), ?_⟩
  obtain ⟨v0, v1, rfl, h0, h1⟩ := args2 tv
  have h1 : v1 = .int goal := h1
  subst h1
  have hn := o.nLe
  have hll := o.lsLen
  intro fd hfd
  refine ⟨upd_same, [(.inl 0, .str (txt []))], rfl, by decide, ?_⟩
  rw [upd_upd]
  refine ⟨by decide, fun wl hwl => ⟨_, _, rfl, ?_⟩⟩
  have hne : wl ≠ fd := fun e => by
    rw [e, upd_same] at hwl
    cases hwl
  have hwl0 : H wl = none := by rw [upd_ne hne] at hwl; exact hwl
  have g1 : Grow D H D (upd H fd (.dK (kvTr [0] fun _ => []))) := (Grow.refl k).mut hfd (k.dom hfd) nf_dK
  have g2 : Grow D H D (upd (upd H fd (.dK (kvTr [0] fun _ => []))) wl (.lst ([(0 : Int)].map V.int))) := g1.mut hwl0 (k.dom hwl0) nf_lst
  refine st_while (D0 := D) (H0 := H) (D := D) (FtW p v0 goal fd wl) g2 1 ⟨[0], fun _ => [], [0], none, none, none, rfl, ⟨k.dom hfd, by rw [upd_ne (fun e => hne e.symm), upd_same]; rfl⟩, ⟨k.dom hwl0, upd_same⟩, ⟨by simp, by simp, rfl, fun k hk => by
    have : k = 0 := by simpa using hk
    omega, fun k hk => by
    have : k = 0 := by simpa using hk
    subst this
    exact ⟨rfl, by decide, fun c hc => by cases hc⟩⟩, .inl ⟨rfl, rfl, rfl⟩⟩ ?_
  rintro m s1 D1 H1 kd gh ⟨ks, tr, ws, x4, x5, x6, rfl, cf, cw, inv, hm⟩
  refine notin_loc (σ := [some v0, some (.int goal), some (.ref fd), some (.ref wl), x4, x5, x6]) (k := .inl goal) (i := 2) rfl cf (ev_var (i := 1) rfl rfl) gh.dh fun D2 H2 g3 cf2 => ?_
  have cw2 := cw.grow (x := .lst _) True.intro g3
  have gh2 := gh.trans g3
  rw [valV_ints (f := fun k => V.str (txt (tr k)))]
  by_cases hg : goal ∈ ks
  · rw [decide_eq_true hg]
    refine whq_f rfl ?_
    refine get_loc (σ := [some v0, some (.int goal), some (.ref fd), some (.ref wl), x4, x5, x6]) (i := 2) (k := .inl goal) rfl cf2 (ev_var (i := 1) rfl rfl) gh2.dh (valV_map (f := fun k => V.str (txt (tr k))) hg) _ fun v D3 H3 g4 tv4 => ?_
    have ht := inv.tx goal hg
    exact q v D3 H3 (gh2.trans g4) ⟨tr goal, tv4, ht.1, ht.2.1, ht.2.2⟩
  · rw [decide_eq_false hg]
    refine whq_t rfl ?_
    obtain ⟨rfl, rfl, rfl⟩ | ⟨_, hg2⟩ := hm
    rotate_left
    · exact absurd hg2 hg
    have nfw : fd ≠ wl := cf2.ne cw2 (by intro e; cases e)
    refine sq_pop0 (i := 3) (j := 4) (acc := []) (y := .int 0) rfl cw2 ?_
    have gh3 := cw2.set (y := .lst []) gh2 hwl0 nf_lst
    have cw3 := cw2.put (y := .lst [])
    have cf3 := cf2.off (y := .lst []) nfw
    have x0 : Ev (tFld K (tVar 0) "letters") [some v0, some (.int goal), some (.ref fd), some (.ref wl), some (.int 0), x5, x6] D2 (tyS (txt p.ls)) := ev_fld (ev_var (t := tyProg K p) (i := 0) rfl ((tyProg K p).up (kd.trans g3.d).q h0)) F.cls_Program F.no_Program_letters rfl
    refine st_for (xs := p.ls) (fun c => tyS (sign c)) (FtJ p v0 goal fd wl) ?_ (D := D2) (by
      have := evi_str x0
      rw [txt_list] at this
      exact this.i) gh3 ?_ ?_ ?_
    · rintro i s D1 H1 D2 H2 ⟨ks, tr, ws, x5, x6, es, cf, cw, r⟩ g
      exact ⟨ks, tr, ws, x5, x6, es, cf.grow (x := .dK _) True.intro g, cw.grow (x := .lst _) True.intro g, r⟩
    · intro D3 H3 g4
      exact ⟨[0], tr, [], x5, x6, rfl, cf3.grow (x := .dK _) True.intro g4, cw3.grow (x := .lst _) True.intro g4, inv, Nat.le_refl _, by simp⟩
    · rintro B kb i c hci s2 D3 H3 x kD3 gH3 ⟨ks2, tr2, ws2, y5, y6, rfl, cf4, cw4, inv2, hz, hcl⟩ tx
      have hcm := List.mem_of_getElem? hci
      have hil : i < p.ls.length := (List.getElem?_eq_some_iff.mp hci).1
      have hdue : ((0 : Int), c) ∈ due p := due_mem.mpr ⟨by constructor <;> simp; omega, hcm⟩
      have kk := (kd.trans g3.d).trans (kb.trans kD3)
      have kl2 := ks_len o inv2.nd inv2.ok
      refine sq_asg (σ := [some v0, some (.int goal), some (.ref fd), some (.ref wl), some (.int 0), some x, y6]) (t := tyI (p.goal 0 c)) (ev_op (ev_dgetT (k := dkey (0, c)) (ev_fld (ev_var (t := tyProg K p) (i := 0) rfl ((tyProg K p).up kk.q h0)) F.cls_Program F.no_Program_steps rfl) (key_tup (x := (0, c)) (ev_var (i := 4) rfl rfl) (ev_var (i := 5) rfl tx)) (tys_step hdue)) ev_c (rv_ixT rfl)) gH3.dh fun v5 D4 H4 g4 t5 => ?_
      have t5 : v5 = .int (p.goal 0 c) := t5
      subst t5
      have tx : x = .str (sign c) := tx
      subst tx
      have cf5 := cf4.grow (x := .dK _) True.intro g4
      have cw5 := cw4.grow (x := .lst _) True.intro g4
      have gH4 := gH3.trans g4
      refine notin_loc (σ := [some v0, some (.int goal), some (.ref fd), some (.ref wl), some (.int 0), some (.str (sign c)), some (.int (p.goal 0 c))]) (k := .inl (p.goal 0 c)) (i := 2) rfl cf5 (ev_var (i := 6) rfl rfl) gH4.dh fun D5 H5 g5 cf6 => ?_
      have cw6 := cw5.grow (x := .lst _) True.intro g5
      have gH5 := gH4.trans g5
      rw [valV_ints (f := fun k => V.str (txt (tr2 k)))]
      have hstep : ∀ ks3 : List Int, (∀ k ∈ ks2, k ∈ ks3) → p.goal 0 c ∈ ks3 → ∀ d ∈ p.ls.take (i + 1), p.goal 0 d ∈ ks3 := fun ks3 h1 h2 d hd => by
        rw [take_one hci] at hd
        rcases List.mem_append.mp hd with hd | hd
        · exact h1 _ (hcl d hd)
        · rw [List.mem_singleton.mp hd]
          exact h2
      by_cases hmem : p.goal 0 c ∈ ks2
      · rw [decide_eq_true hmem]
        exact iteF ⟨D5, (kD3.trans g4.d).trans g5.d, gH5, ks2, tr2, ws2, _, _, rfl, cf6, cw6, inv2, Nat.le_succ_of_le hz, hstep ks2 (fun k hk => hk) hmem⟩
      · rw [decide_eq_false hmem]
        refine iteT ?_
        obtain ⟨t3, inv3, hkv⟩ := inv2.new o hcm hmem
        have ex : EvAt (tOp _ (tDGet (tVar 2) (tVar 4)) (tVar 5)) [some v0, some (.int goal), some (.ref fd), some (.ref wl), some (.int 0), some (.str (sign c)), some (.int (p.goal 0 c))] D5 H5 (tyS (txt [c])) := ev_opA (t := tyS (txt (tr2 0))) (u := tyS (sign c)) (get_loc (i := 2) (k := .inl 0) rfl cf6 (ev_var (i := 4) rfl rfl) gH5.dh (valV_map (f := fun k => V.str (txt (tr2 k))) inv2.zero)) (fun D6 H6 g6 => Ev.at_ (ev_var (i := 5) rfl rfl) g6.dh) (rv_to (by rw [inv2.t0, ← txt_app]; rfl) (rv_catS (by rw [inv2.t0, txt_len]; show 0 + 1 ≤ 100000; decide)))
        refine sq_dputA (σ := [some v0, some (.int goal), some (.ref fd), some (.ref wl), some (.int 0), some (.str (sign c)), some (.int (p.goal 0 c))]) (k := .inl (p.goal 0 c)) (i := 2) rfl cf6 ex (ev_var (i := 6) rfl rfl) (by rw [List.length_map]; omega) (by
          rw [List.map_map]
          intro hm3
          obtain ⟨y, hy, e⟩ := List.mem_map.mp hm3
          cases e
          exact hmem hy) fun v6 D6 H6 g6 t6 cf7 => ?_
        have t6 : v6 = .str (txt [c]) := t6
        subst t6
        have cw7 := cw6.grow (x := .lst _) True.intro g6
        have gH6 := cf7.set (y := .dK (kvTr ks2 tr2 ++ [(.inl (p.goal 0 c), .str (txt [c]))])) (gH5.trans g6) hfd nf_dK
        have cf8 := cf7.put (y := .dK (kvTr ks2 tr2 ++ [(.inl (p.goal 0 c), .str (txt [c]))]))
        have cw8 := cw7.off (y := .dK (kvTr ks2 tr2 ++ [(.inl (p.goal 0 c), .str (txt [c]))])) (fun e => nfw e.symm)
        refine st_append (σ := [some v0, some (.int goal), some (.ref fd), some (.ref wl), some (.int 0), some (.str (sign c)), some (.int (p.goal 0 c))]) (t := tyI (p.goal 0 c)) (i := 3) rfl cw8 (ev_var (i := 6) rfl rfl) gH6.dh (by rw [List.length_map]; omega) fun v7 D7 H7 g7 t7 cw9 => ?_
        have t7 : v7 = .int (p.goal 0 c) := t7
        subst t7
        have cf9 := cf8.grow (x := .dK _) True.intro g7
        refine ⟨D7, ((kD3.trans g4.d).trans g5.d).trans (g6.d.trans g7.d), cw9.set (gH6.trans g7) hwl0 nf_lst, ks2 ++ [p.goal 0 c], _, ws2 ++ [p.goal 0 c], _, _, rfl, ?_, ?_, inv3, ?_, ?_⟩
        · rw [hkv]
          exact cf9.off (y := .lst (ws2.map V.int ++ [.int (p.goal 0 c)])) nfw
        · rw [List.map_append]
          exact cw9.put
        · rw [List.length_append]
          simp
          omega
        · exact hstep _ (fun k hk => List.mem_append_left _ hk) (List.mem_append_right _ (by simp))
    · rintro s2 D3 H3 kD3 gH3 ⟨ks2, tr2, ws2, y5, y6, rfl, cf4, cw4, inv2, hz, hcl⟩
      refine ⟨0, by decide, D3, (kd.trans g3.d).trans kD3, gH3, ks2, tr2, ws2, _, _, _, rfl, cf4, cw4, inv2, .inr ⟨rfl, ?_⟩⟩
      rw [List.take_length] at hcl
      rcases (rch_mem o).mp hgoal with e | ⟨c, hc, e⟩
      · rw [e]
        exact inv2.zero
      · rw [← e]
        exact hcl c hc
end
end K02
set_option Elab.async false
set_option linter.all false
set_option maxRecDepth 100000
set_option maxHeartbeats 8000000
namespace K02
open PySem PySem.Spec PyProof.Rows L2 PySem.W
section
variable {P : Program} {w : World} {K : PySem.W.Frag} {mg : Str → Option Value} {base : Heap}
variable {σ : Sl} {D D' H : Hp} {te ta tb tk tv td : TE} {t u z : Ty} {ts : List Ty}
/-! ### Twice.shows -/
def rowsR (p : Pg) : Int → List Nat → List (Str → List Item)
  | _, [] => []
  | s, c :: cs => p.row s c :: rowsR p (p.goal s c) cs
theorem rowsR_app (p : Pg) : ∀ (s : Int) (cs : List Nat) (c : Nat), rowsR p s (cs ++ [c]) = rowsR p s cs ++ [p.row (runS p s cs) c]
  | _, [], _ => rfl
  | s, d :: cs, c => by
    show p.row s d :: rowsR p (p.goal s d) (cs ++ [c]) = p.row s d :: rowsR p (p.goal s d) cs ++ _
    rw [rowsR_app p (p.goal s d) cs c]
    rfl
theorem rowsR_len (p : Pg) : ∀ (s : Int) (cs : List Nat), (rowsR p s cs).length = cs.length
  | _, [] => rfl
  | s, d :: cs => congrArg (· + 1) (rowsR_len p (p.goal s d) cs)
theorem rowsR_mem {p : Pg} (o : PgOk p) : ∀ {s : Int} {cs : List Nat} {r : Str → List Item}, 0 ≤ s ∧ s < p.n → (∀ c ∈ cs, c ∈ p.ls) → r ∈ rowsR p s cs → ∃ x ∈ due p, r = p.row x.1 x.2
  | _, [], _, _, _, h => by cases h
  | s, d :: cs, r, hs, hc, h => by
    have hd : (s, d) ∈ due p := due_mem.mpr ⟨hs, hc d List.mem_cons_self⟩
    rcases List.mem_cons.mp h with h | h
    · exact ⟨(s, d), hd, h⟩
    · exact rowsR_mem o (o.goal _ hd) (fun c h2 => hc c (List.mem_cons_of_mem _ h2)) h
structure TwOk (p : Pg) (x : List Nat × List Nat × Str) : Prop where
  tz : x.1.length ≤ 2
  tl : ∀ c ∈ x.1, c ∈ p.ls
  rz : x.2.1.length ≤ 9
  rl : ∀ c ∈ x.2.1, c ∈ p.ls
  en : runS p (runS p 0 x.1) x.2.1 ∈ ens p
  us : ∀ i ≤ x.2.1.length, (∀ a ∈ usesB ((rowsR p (runS p 0 x.1) x.2.1).drop i) (regsOf (enr p (runS p (runS p 0 x.1) x.2.1))), a ∈ p.regs) ∧ (usesB ((rowsR p (runS p 0 x.1) x.2.1).drop i) (regsOf (enr p (runS p (runS p 0 x.1) x.2.1)))).length ≤ 1000
  ct : 1 < (usesB (rowsR p (runS p 0 x.1) x.2.1) (regsOf (enr p (runS p (runS p 0 x.1) x.2.1)))).count x.2.2
theorem txt_cat (a b : List Nat) : txt a ++ txt b = txt (a ++ b) := by
  show Str.mk (a.toArray ++ b.toArray) = Str.mk (a ++ b).toArray
  simp
theorem sq_par {E : Ends} {i j : Nat} {b : TS} (e1 : Ev ta σ D t) (e2 : ∀ D1 H1, Grow D H D1 H1 → Ev tb σ D1 u) (k : Kp D H) (h : ∀ v1 v2 D1 H1, Grow D H D1 H1 → t.p v1 D1 → u.p v2 D1 → b E ((σ.set i (some v1)).set j (some v2)) H1) : tSeq (tPar i j (tCons ta (tCons tb tNil))) b E σ H := e1.use k fun v1 D1 H1 g1 t1 => (e2 D1 H1 g1).use g1.dh fun v2 D2 H2 g2 t2 => ⟨v1, v2, rfl, h v1 v2 D2 H2 (g1.trans g2) (t.up g2.d.q t1) t2⟩
abbrev sp_Twice_shows (K : PySem.W.Frag) : Sp := SpN (fun x : Pg × List Nat × List Nat × Str => [tyTwi K x.2, tyProg K x.1]) (fun _ => tyB true) (fun x => PgOk x.1 ∧ TwOk x.1 x.2)
theorem cal_Twice_shows (F : Fc K mg) : Met P w K mg base 4 (WP K) "shows" (sp_Twice_shows K) := mk_Twice_shows F (fun _ _ _ _ h => SpN.len (n := 2) (fun _ => rfl) h) fun f cdv A outer s H vs Q E hr h => by
  have nd := sc_Twice_shows.nd
  have hu := Nat.lt_of_le_of_lt (Nat.add_le_add_left (by decide : 1 ≤ 64) _) hr.units
  have c_check_program := cal_check_program (P := P) (w := w) (base := base) F
  have c_after := cal_Program_after (P := P) (w := w) (base := base) F
  have c_count_of := cal_count_of (P := P) (w := w) (base := base) F
  obtain ⟨⟨p, cs, rs, nm⟩, D, ⟨o, ok⟩, nl, k, tv, q⟩ := h
  dsimp only at o ok tv q
  refine ⟨_, (pss_cons (ps_expr (pe_cal c_check_program hr (by decide) (by rfl) (pa_cons (pv 1) pa_nil)))
    (pss_cons (ps_if (pt_not (pt_val (pe_callB (k_all rfl) (by rfl) F.f_all bt_all (pa_cons (pe_lc (own := [("letter", 2)]) rfl nd (pi_str (pe_op op_add_str (k_fld (pv 0) rfl) (k_fld (pv 0) rfl))) (blkOk_by (N := n_Twice_shows) (sc := defScope s_Twice_shows) (by decide +kernel)) (fun _ _ _ _ _ => (pg_name (i := 2) nd rfl (.inl rfl))) (fun _ _ _ _ _ => pts_nil) (fun _ _ _ _ _ => (pe_cmpR op_in_sign (pv 2) (k_fld (pv 1) rfl) rfl))) pa_nil)))) (pss_one (ps_ret pe_bl)) pss_nil)
    (pss_cons (ps_par (i := 3) (j := 4) rfl nd rfl rfl (by decide) rfl rfl (pa_cons (pe_ix k_ix_tup (pe_met c_after hr (by decide) (pv 1) (pa_cons (k_fld (pv 0) rfl) pa_nil)) pe_int (fun _ _ => rfl)) (pa_cons (pe_lst pa_nil) pa_nil)) rfl)
    (pss_cons (ps_for PassesOwn.never rfl (pi_str (k_fld (pv 0) rfl)) (pg_name (i := 2) nd rfl (.inl rfl)) (pss_cons (ps_asg (pe_dget hu (k_fld (pv 1) rfl) (pe_tup (pa_cons (pv 3) (pa_cons (pv 2) pa_nil))) (fun _ _ => rfl)) (k_pg_tup (n := 2) rfl (pgs_cons (pg_name (i := 3) nd rfl (.inl rfl)) (pgs_cons (pg_name (i := 5) nd rfl (.inl rfl)) pgs_nil))))
      (pss_one (ps_expr (pe_bm PySem.F.plainAttrs_list PySem.F.slot_list_append PySem.F.type_list_append mt_append (pv 4) (pa_cons (pv 5) pa_nil))))))
    (pss_one (ps_ret (pe_and (pe_cmp (pc_din hu (pv 3) (k_fld (pv 1) rfl))) (pe_one (pe_cmpR op_gt (pe_cal c_count_of hr (by decide) (by rfl) (pa_cons (pv 4) (pa_cons (pe_dget hu (k_fld (pv 1) rfl) (pv 3) (fun _ _ => rfl)) (pa_cons (k_fld (pv 0) rfl) pa_nil)))) pe_int (nomark _)))))))))), ?_⟩
  obtain ⟨v0, v1, rfl, h0, h1⟩ := args2 tv
  have hn := o.nLe
  obtain ⟨tz, tl, rz, rl, en, us, ct⟩ := ok
  dsimp only at tz tl rz rl en us ct
  refine sq_drop (σ := [some v0, some v1, none, none, none, none]) (ev_call p True.intro (ea_cons (ev_var (i := 1) rfl h1) ea_nil)) k fun D1 H1 g1 => ?_
  have u0 := (tyTwi K (cs, rs, nm)).up g1.d.q h0
  have u1 := (tyProg K p).up g1.d.q h1
  have x0 : Ev (tVar 0) [some v0, some v1, none, none, none, none] D1 (tyTwi K (cs, rs, nm)) := ev_var rfl u0
  have xt := ev_fld (f := "text") (t := tyS (txt cs)) x0 F.cls_Twice F.no_Twice_text rfl
  have xr := ev_fld (f := "rest") (t := tyS (txt rs)) x0 F.cls_Twice F.no_Twice_rest rfl
  refine sq_ifN (eb_not (b := true) (eb_B (b := true) (eb_allT (xs := cs ++ rs) ?_))) g1.dh fun D2 H2 g2 => ?_
  · have it := evi_str (ev_op xt xr (rv_to (congrArg tyS (txt_cat cs rs)) (rv_catS (by rw [txt_len, txt_len]; omega))))
    rw [txt_list] at it
    refine ev_lcm (fun c => tyS (sign c)) _ it.i (by rw [List.length_append]; omega) fun c hc D3 k3 x hx => lcel rfl (ev_op (ev_var (t := tyS (sign c)) (i := 2) rfl hx) (ev_fld (ev_var (t := tyProg K p) (i := 1) rfl ((tyProg K p).up k3.q u1)) F.cls_Program F.no_Program_letters rfl) (rv_to (by
      show tyB (decide (c ∈ (txt p.ls).cps.toList)) = tyB true
      have : c ∈ p.ls := by
        rcases List.mem_append.mp hc with h | h
        · exact tl c h
        · exact rl c h
      rw [txt_list, decide_eq_true this]) rv_inSign))
  · have gA := g1.trans g2
    have w0 := (tyTwi K (cs, rs, nm)).up g2.d.q u0
    have w1 := (tyProg K p).up g2.d.q u1
    have y0 : Ev (tVar 0) [some v0, some v1, none, none, none, none] D2 (tyTwi K (cs, rs, nm)) := ev_var rfl w0
    have y1 : Ev (tVar 1) [some v0, some v1, none, none, none, none] D2 (tyProg K p) := ev_var rfl w1
    have ya := ev_methN (B := fun x : Pg × List Nat => tyT [tyI (runS x.1 0 x.2), tyHeld x.1.regs (holdS x.1 0 x.1.fst x.2)]) (Cn := fun x => PgOk x.1 ∧ x.2.length ≤ 2 ∧ ∀ c ∈ x.2, c ∈ x.1.ls) (A := fun x : Pg × List Nat => [tyProg K x.1, tyS (txt x.2)]) (E := E0) (m := "after") (p, cs) ⟨o, tz, tl⟩ (nl.up gA.d) rfl (show ("after" : Str) ∉ [("letters" : Str), "states", "registers", "firsts", "steps", "ends"] from by decide +kernel) y1 (ea_cons (ev_fld (f := "text") (t := tyS (txt cs)) y0 F.cls_Twice F.no_Twice_text rfl) ea_nil)
    refine (ev_op ya (ev_c (v := .int 0)) (rv_ixT (K := K) (i := 0) rfl)).use g2.dh fun v3 D3 H3 g3 t3 => ?_
    have t3 : v3 = .int (runS p 0 cs) := t3
    subst t3
    refine ⟨by decide, fun l hl => ⟨_, _, rfl, ?_⟩⟩
    have gB := gA.trans g3
    have hl0 : H l = none := gB.h.dom hl
    have g4 := gB.mut (u := .lst []) hl0 (gB.dh.dom hl) nf_lst
    have cl : Loc l (.lst []) D3 (upd H3 l (.lst [])) := Loc.new gB.dh hl
    have z0 := (tyTwi K (cs, rs, nm)).up g3.d.q w0
    have z1 := (tyProg K p).up g3.d.q w1
    have hst := run_ok o (s := 0) (by omega) tl
    refine st_for (D0 := D) (H0 := H) (D := D3) (xs := rs) (fun c => tyS (sign c)) (fun i s D H => ∃ acc x2 x5, s = [some v0, some v1, x2, some (.int (runS p (runS p 0 cs) (rs.take i))), some (.ref l), x5] ∧ Loc l (.lst acc) D H ∧ TysAt ((rowsR p (runS p 0 cs) (rs.take i)).map fun r => tyRows p.regs r) acc D) ?_ (by
      have := evi_str (ev_fld (f := "rest") (t := tyS (txt rs)) (ev_var (t := tyTwi K (cs, rs, nm)) (σ := [some v0, some v1, none, some (.int (runS p 0 cs)), some (.ref l), none]) (i := 0) rfl z0) F.cls_Twice F.no_Twice_rest rfl)
      rw [txt_list] at this
      exact this.i) g4 ?_ ?_ ?_
    · rintro i s D1 H1 D2 H2 ⟨acc, x2, x5, es, c, th⟩ g
      exact ⟨acc, x2, x5, es, c.grow (x := .lst acc) True.intro g, TysAt.up g.d.q th⟩
    · intro D5 H5 g5
      exact ⟨[], none, none, rfl, cl.grow (x := .lst _) True.intro g5, .nil⟩
    · rintro B kb i c hci s1 D5 H5 x kD5 gH5 ⟨acc, x2, x5, rfl, c5, th⟩ tx
      have hcm := rl c (List.mem_of_getElem? hci)
      have hs2 := run_ok o hst (cs := rs.take i) fun d hd => rl d (List.mem_of_mem_take hd)
      have hdue : (runS p (runS p 0 cs) (rs.take i), c) ∈ due p := due_mem.mpr ⟨hs2, hcm⟩
      have kk := kb.trans kD5
      refine sq_asgG (σ := [some v0, some v1, some x, some (.int (runS p (runS p 0 cs) (rs.take i))), some (.ref l), x5]) (ev_dgetT (k := dkey (runS p (runS p 0 cs) (rs.take i), c)) (ev_fld (ev_var (t := tyProg K p) (i := 1) rfl ((tyProg K p).up kk.q z1)) F.cls_Program F.no_Program_steps rfl) (key_tup (x := (runS p (runS p 0 cs) (rs.take i), c)) (ev_var (i := 3) rfl rfl) (ev_var (i := 2) rfl tx)) (tys_step hdue)) gH5.dh fun v4 D6 H6 g6 t6 => ?_
      refine ga_2 g6.dh t6 fun a b ta tb => ?_
      have ta : a = .int (p.goal (runS p (runS p 0 cs) (rs.take i)) c) := ta
      subst ta
      have c6 := c5.grow (x := .lst acc) True.intro g6
      have gH6 := gH5.trans g6
      have hal : acc.length < 100000 := by
        rw [pr_len th, List.length_map, rowsR_len, List.length_take]
        omega
      refine st_append (σ := [some v0, some v1, some x, some (.int (p.goal (runS p (runS p 0 cs) (rs.take i)) c)), some (.ref l), some b]) (i := 4) rfl c6 (ev_var (i := 5) rfl tb) gH6.dh hal fun v7 D7 H7 g7 t7 c7 => ?_
      refine ⟨D7, kD5.trans (g6.d.trans g7.d), c7.set (gH6.trans g7) hl0 nf_lst, acc ++ [v7], some x, some b, ?_, c7.put, ?_⟩
      · rw [take_one hci, run_app]
      · rw [take_one hci, rowsR_app, List.map_append]
        exact pr_app (TysAt.up (g6.d.trans g7.d).q th) (.cons t7 .nil)
    · rintro s1 D5 H5 kD5 gH5 ⟨acc, x2, x5, rfl, c5, th⟩
      rw [List.take_length] at th ⊢
      obtain ⟨gO, kO⟩ := c5.own gH5 hl0 (.inl True.intro)
      have tl5 : (tyL ((rowsR p (runS p 0 cs) rs).map fun r => tyRows p.regs r)).p (.ref l) (upd D5 l (.lst acc)) := ⟨l, acc, rfl, upd_same, TysAt.up kO.q th⟩
      have kz := kD5.q.trans kO.q
      have a1 := (tyProg K p).up kz z1
      have a0 := (tyTwi K (cs, rs, nm)).up kz z0
      generalize hσ : [some v0, some v1, x2, some (V.int (runS p (runS p 0 cs) rs)), some (.ref l), x5] = σ5
      have y1 : Ev (tVar 1) σ5 (upd D5 l (.lst acc)) (tyProg K p) := ev_var (by rw [← hσ]; rfl) a1
      have y3 : Ev (tVar 3) σ5 (upd D5 l (.lst acc)) (tyI (runS p (runS p 0 cs) rs)) := ev_var (by rw [← hσ]; rfl) rfl
      have y4 : Ev (tVar 4) σ5 (upd D5 l (.lst acc)) (tyL ((rowsR p (runS p 0 cs) rs).map fun r => tyRows p.regs r)) := ev_var (by rw [← hσ]; rfl) tl5
      have y0 : Ev (tVar 0) σ5 (upd D5 l (.lst acc)) (tyTwi K (cs, rs, nm)) := ev_var (by rw [← hσ]; rfl) a0
      have ye := ev_fld (f := "ends") (t := tyEnds p) y1 F.cls_Program F.no_Program_ends rfl
      dsimp only
      refine st_ret (t := tyB true) (ev_is (t := tyB (true && true)) rfl (ev_andV (ev_din (k := .inl (runS p (runS p 0 cs) rs)) ye y3 (.inl ⟨rfl, _, tys_end en⟩)) fun _ => ev_op (ev_call (p.regs, rowsR p (runS p 0 cs) rs, enr p (runS p (runS p 0 cs) rs), nm) ⟨?_, ?_, ?_⟩ (ea_cons y4 (ea_cons (ev_dget (k := .inl (runS p (runS p 0 cs) rs)) ye y3 (tys_end en)) (ea_cons (ev_fld (f := "name") (t := tyS nm) y0 F.cls_Twice F.no_Twice_name rfl) ea_nil)))) (ev_c (v := .int 1)) (rv_gt (i := ((usesB (rowsR p (runS p 0 cs) rs) (regsOf (enr p (runS p (runS p 0 cs) rs)))).count nm : Nat)) (j := 1) (decide_eq_true (by omega))))) gO.dh fun v D6 H6 g6 t6 => q v D6 H6 (gO.trans g6) t6
      · exact Nat.le_trans (o.en _ en).1 (by decide)
      · intro r hr a ha
        obtain ⟨x, hx, rfl⟩ := rowsR_mem o hst rl hr
        exact Nat.le_trans (o.row x hx a ha).1 (by decide)
      · intro i hi
        exact us i (by rw [rowsR_len] at hi; exact hi)
end
end K02
set_option Elab.async false
set_option linter.all false
set_option maxRecDepth 100000
set_option maxHeartbeats 8000000
namespace K02
open PySem PySem.Spec PyProof.Rows L2 PySem.W
section
variable {P : Program} {w : World} {K : PySem.W.Frag} {mg : Str → Option Value} {base : Heap}
variable {σ : Sl} {D D' H : Hp} {te ta tb tk tv td : TE} {t u z : Ty} {ts : List Ty}
/-! ### Thrifty.shows -/
theorem rc_listN {ps : List Pr} : RC (fun xs H Q => ∃ a L, xs = [V.ref a] ∧ Rd H a (NDict P w a L) ∧ ∀ p, H p = none → Q (.ref p) (upd H p (.lst (L.map fun l => V.ref l.2.1)))) [tyN P w ps] (tyL (ps.map tyPr)) := fun xs D H k h Q q => by
  obtain ⟨v, rfl, a, L, rfl, ha, hL⟩ := args1 h
  refine ⟨a, L, rfl, k.q.sf (u := NDict P w a L) True.intro ha, fun p hp => q (.ref p) _ _ ((Grow.refl k).add hp (.inl True.intro)) ⟨p, _, rfl, upd_same, ?_⟩⟩
  have kq := (Kp.new (k.dom hp) (nofz_of (.inl (show Fixd (.lst (L.map fun l => V.ref l.2.1)) from True.intro)))).q
  generalize upd D p (.lst (L.map fun l => V.ref l.2.1)) = D2 at kq ⊢
  clear ha q h
  induction hL with
  | nil => exact .nil
  | cons r _ ih =>
    rw [List.map_cons, List.map_cons]
    refine .cons ?_ ih
    rw [← r.1]
    exact (r.2.2.up kq).ty
def endC (p : Pg) (ks : List Pr) (s : Int) : Bool := !decide (s ∈ ens p) || (decide (regsOf (enr p s)).Nodup && decide ((s, sortS (regsOf (enr p s))) ∈ ks))
def stpC (p : Pg) (ks : List Pr) (ns : List Str) (y : Int × Nat) : Bool := decide (usesOf (p.row y.1 y.2) ns).Nodup && decide ((y.1, sortS (usesOf (p.row y.1 y.2) ns)) ∈ ks)
def closP (p : Pg) (ks : List Pr) : Bool := (rch p).all (endC p ks) && ks.all fun x => (bk p x.1).all (stpC p ks x.2)
structure KsOk (p : Pg) (ks : List Pr) : Prop where
  nd : ks.Nodup
  len : ks.length ≤ 1000
  st : ∀ x ∈ ks, x.1 ∈ rch p
  rg : ∀ x ∈ ks, (∀ r ∈ x.2, r ∈ p.regs) ∧ x.2.length ≤ 100
theorem bk_mem {p : Pg} {k : Int} {y : Int × Nat} : y ∈ bk p k ↔ (y.1 ∈ rch p ∧ y.2 ∈ p.ls) ∧ p.goal y.1 y.2 = k := by
  unfold bk bks
  rw [List.mem_filter, List.mem_flatMap]
  constructor
  · rintro ⟨⟨s, hs, hy⟩, h⟩
    obtain ⟨c, hc, rfl⟩ := List.mem_map.mp hy
    exact ⟨⟨hs, hc⟩, of_decide_eq_true h⟩
  · rintro ⟨⟨h1, h2⟩, h3⟩
    exact ⟨⟨y.1, h1, List.mem_map.mpr ⟨y.2, h2, rfl⟩⟩, decide_eq_true h3⟩
theorem bk_due {p : Pg} (o : PgOk p) {k : Int} {y : Int × Nat} (h : y ∈ bk p k) : y ∈ due p := by
  obtain ⟨⟨h1, h2⟩, _⟩ := bk_mem.mp h
  exact due_mem.mpr ⟨rch_ok o _ h1, h2⟩
theorem bks_len {p : Pg} (o : PgOk p) : (bks p).length ≤ 4 := by
  show (flatB p (rch p)).length ≤ 4
  rw [flatB_len]
  exact Nat.mul_le_mul (rch_len p) o.lsLen.2
theorem bk_len {p : Pg} (o : PgOk p) (k : Int) : (bk p k).length ≤ 4 := Nat.le_trans (List.length_filter_le _ _) (bks_len o)
theorem uses_sub {p : Pg} (o : PgOk p) {y : Int × Nat} (hy : y ∈ due p) {ns : List Str} (hs : ∀ r ∈ ns, r ∈ p.regs) : ∀ a ∈ usesOf (p.row y.1 y.2) ns, a ∈ p.regs := fun a ha => by
  obtain ⟨r, hr, ha⟩ := List.mem_flatMap.mp ha
  obtain ⟨i, hi, e⟩ := List.mem_filterMap.mp ha
  have hi2 := (o.row y hy r (hs r hr)).2.2 i hi
  cases i with
  | inl s => cases e
  | inr r2 =>
    cases e
    exact hi2.2 _ rfl
theorem regs_sub {p : Pg} (o : PgOk p) {s : Int} (hs : s ∈ ens p) : ∀ a ∈ regsOf (enr p s), a ∈ p.regs := fun a ha => by
  obtain ⟨i, hi, e⟩ := List.mem_filterMap.mp ha
  have hi2 := (o.en s hs).2.2 i hi
  cases i with
  | inl s => cases e
  | inr r2 =>
    cases e
    exact hi2.2 _ rfl
abbrev sp_Thrifty_shows (K : PySem.W.Frag) : Sp := SpN (fun x : Pg × List Pr => [tyThr K x.2, tyProg K x.1]) (fun x => tyB (closP x.1 x.2)) (fun x => PgOk x.1 ∧ KsOk x.1 x.2)
theorem cal_Thrifty_shows (F : Fc K mg) : Met P w K mg base 3 (TP K) "shows" (sp_Thrifty_shows K) := mk_Thrifty_shows F (fun _ _ _ _ h => SpN.len (n := 2) (fun _ => rfl) h) fun f cdv A outer s H vs Q E hr h => by
  have nd := sc_Thrifty_shows.nd
  have hu := Nat.lt_of_le_of_lt (Nat.add_le_add_left (by decide : 1 ≤ 64) _) hr.units
  have c_check_program := cal_check_program (P := P) (w := w) (base := base) F
  have c_backwards := cal_backwards (P := P) (w := w) (base := base) F
  have c_is_listed := cal_is_listed (P := P) (w := w) (base := base) F
  have c_registers_in := cal_registers_in (P := P) (w := w) (base := base) F
  have c_uses_of := cal_uses_of (P := P) (w := w) (base := base) F
  obtain ⟨⟨p, ks⟩, D, ⟨o, ok⟩, nl, k, tv, q⟩ := h
  dsimp only at o ok tv q
  refine ⟨_, (pss_cons (ps_expr (pe_cal c_check_program hr (by decide) (by rfl) (pa_cons (pv 1) pa_nil)))
    (pss_cons (ps_par (i := 2) (j := 3) rfl nd rfl rfl (by decide) rfl rfl (pa_cons (pe_dcN (own := [("one", 9)]) hr.units rfl nd (k_pi_list (k_fld (pv 0) rfl)) (blkOk_by (N := n_Thrifty_shows) (sc := defScope s_Thrifty_shows) (by decide +kernel)) (fun _ _ _ _ _ => (pg_name (i := 9) nd rfl (.inl rfl))) (fun _ _ _ _ _ => pts_nil) (fun _ _ _ _ _ => (pv 9)) (fun _ _ _ _ _ => pe_bl)) (pa_cons (pe_cal c_backwards hr (by decide) (by rfl) (pa_cons (pv 1) pa_nil)) pa_nil)) rfl)
    (pss_cons (ps_lock (ps_for PassesOwn.never rfl (pi_keys (pv 3)) (pg_name (i := 4) nd rfl (.inl rfl)) (pss_one (ps_if (PW.pt (pw_and (pt_cmp (pc_din hu (pv 4) (k_fld (pv 1) rfl))) (pw_and1 (pt_not (pt_val (pe_cal c_is_listed hr (by decide) (by rfl) (pa_cons (pv 2) (pa_cons (pv 4) (pa_cons (pe_cal c_registers_in hr (by decide) (by rfl) (pa_cons (pe_dget hu (k_fld (pv 1) rfl) (pv 4) (fun _ _ => rfl)) pa_nil)) pa_nil))))))))) (pss_one (ps_ret pe_bl)) pss_nil))))
    (pss_cons (ps_for PassesOwn.never rfl (k_pi_list (pe_callTy (call_listN rfl) (by rfl) F.f_list bt_list (pa_cons (pv 2) pa_nil))) (k_pg_tup (n := 2) rfl (pgs_cons (pg_name (i := 4) nd rfl (.inl rfl)) (pgs_cons (pg_name (i := 5) nd rfl (.inl rfl)) pgs_nil))) (pss_one (ps_for PassesOwn.never rfl (k_pi_list (pe_dget2 hu (pv 3) (pv 4) (pe_lst pa_nil) (by constructor <;> rfl))) (k_pg_tup (n := 2) rfl (pgs_cons (pg_name (i := 6) nd rfl (.inl rfl)) (pgs_cons (pg_name (i := 7) nd rfl (.inl rfl)) pgs_nil))) (pss_cons (ps_set (i := 8) nd rfl (.inr rfl) (pe_ix k_ix_tup (pe_dget hu (k_fld (pv 1) rfl) (pe_tup (pa_cons (pv 6) (pa_cons (pv 7) pa_nil))) (fun _ _ => rfl)) pe_int (fun _ _ => rfl)))
        (pss_one (ps_if (PW.pt (pw_or (pt_not (pt_val (pe_callB (k_all rfl) (by rfl) F.f_all bt_all (pa_cons (pe_lc (own := [("name", 10)]) rfl nd (k_pi_tup (pv 5)) (blkOk_by (N := n_Thrifty_shows) (sc := defScope s_Thrifty_shows) (by decide +kernel)) (fun _ _ _ _ _ => (pg_name (i := 10) nd rfl (.inl rfl))) (fun _ _ _ _ _ => pts_nil) (fun _ _ _ _ _ => (pe_cmp (pc_din hu (pv 10) (pv 8))))) pa_nil)))) (pw_or1 (pt_not (pt_val (pe_cal c_is_listed hr (by decide) (by rfl) (pa_cons (pv 2) (pa_cons (pv 6) (pa_cons (pe_cal c_uses_of hr (by decide) (by rfl) (pa_cons (pv 8) (pa_cons (pv 5) pa_nil))) pa_nil))))))))) (pss_one (ps_ret pe_bl)) pss_nil))))))
    (pss_one (ps_ret pe_bl)))))), ?_⟩
  obtain ⟨v0, v1, rfl, h0, h1⟩ := args2 tv
  refine sq_drop (σ := [some v0, some v1, none, none, none, none, none, none, none, none, none]) (ev_call p True.intro (ea_cons (ev_var (i := 1) rfl h1) ea_nil)) k fun D1 H1 g1 => ?_
  have u0 := (tyThr K ks).up g1.d.q h0
  have u1 := (tyProg K p).up g1.d.q h1
  refine sq_par (t := tyN P w (ks.map fun x => x)) (u := tyBack p) (ev_dcN (P := P) (w := w) tyPr (fun x => x) (evi_list (ev_fld (f := "lives") (t := tyL (ks.map tyPr)) (ev_var (t := tyThr K ks) (i := 0) rfl u0) F.cls_Thrifty F.no_Thrifty_lives rfl)).i (by rw [List.map_id']; exact ok.nd) (Nat.le_trans ok.len (by decide)) fun x hx D2 k2 y hy => dgel rfl (ev_var (i := 9) rfl hy) ev_c) (fun D2 H2 g2 => ev_call p o (ea_cons (ev_var (i := 1) rfl ((tyProg K p).up g2.d.q u1)) ea_nil)) g1.dh fun v2 v3 D2 H2 g2 t2 t3 => ?_
  rw [List.map_id'] at t2
  have gA := g1.trans g2
  have nl2 := nl.up gA.d
  have w1 := (tyProg K p).up g2.d.q u1
  obtain ⟨d, kvs, rfl, hd, hv⟩ := tyD_at nl2.k t3
  have hdH := gA.dh.exact (u := .dK kvs) True.intro hd
  refine sq_lock (D := D2) hd True.intro gA.dh fun od kq1 kp1 => ?_
  refine st_for (D0 := upd D2 d (.frz od (.dK kvs))) (H0 := upd H2 d (.frz od (.dK kvs))) (xs := rch p) (D := upd D2 d (.frz od (.dK kvs))) tyI (fun i s D H => ∃ x4, s = [some v0, some v1, some v2, some (.ref d), x4, none, none, none, none, none, none] ∧ ((rch p).take i).all (endC p ks) = true) (fun z _ => z) (by
    have := (evi_keys (pu_var (σ := [some v0, some v1, some v2, some (.ref d), none, none, none, none, none, none, none]) (i := 3) rfl) (upd_same (H := D2)) (KvsAt.up kq1 hv)).i
    rw [List.map_map] at this
    exact this) (Grow.refl kp1) (fun D3 H3 g3 => ⟨none, rfl, rfl⟩) ?_ ?_
  · rintro B kb i st hi s1 D3 H3 y kD3 gH3 ⟨x4, rfl, hall⟩ ty
    have ty : y = .int st := ty
    subst ty
    have hst := List.mem_of_getElem? hi
    have kk := kq1.trans (kb.trans kD3).q
    show tIfS _ _ _ _ ([some v0, some v1, some v2, some (V.ref d), x4, none, none, none, none, none, none].set 4 (some (V.int st))) H3
    generalize hσ : [some v0, some v1, some v2, some (V.ref d), x4, none, none, none, none, none, none].set 4 (some (V.int st)) = σ5
    have y1 : Ev (tVar 1) σ5 D3 (tyProg K p) := ev_var (by rw [← hσ]; rfl) ((tyProg K p).up kk w1)
    have y2 : Ev (tVar 2) σ5 D3 (tyN P w ks) := ev_var (by rw [← hσ]; rfl) ((tyN P w ks).up kk t2)
    have y4 : Ev (tVar 4) σ5 D3 (tyI st) := ev_var (by rw [← hσ]; rfl) rfl
    have ye := ev_fld (f := "ends") (t := tyEnds p) y1 F.cls_Program F.no_Program_ends rfl
    refine st_ifB (σ := σ5) (v := !endC p ks st) ?_ gH3.dh (fun hb D4 H4 g4 => ?_) (fun hb D4 H4 g4 => ?_)
    · by_cases hen : st ∈ ens p
      · have e : (!endC p ks st) = (true && !(decide (regsOf (enr p st)).Nodup && decide ((st, sortS (regsOf (enr p st))) ∈ ks))) := by
          unfold endC
          rw [decide_eq_true hen]
          rfl
        rw [e]
        exact eb_and (eb_B (ev_din (k := .inl st) ye y4 (.inl ⟨rfl, _, tys_end hen⟩))) fun _ => eb_not (eb_B (ev_call (ks, st, regsOf (enr p st)) (Nat.le_trans (Nat.le_trans (regsOf_len _) (o.en st hen).1) (by decide)) (ea_cons y2 (ea_cons y4 (ea_cons (ev_call (enr p st) (Nat.le_trans (o.en st hen).1 (by decide)) (ea_cons (ev_dget (k := .inl st) ye y4 (tys_end hen)) ea_nil)) ea_nil)))))
      · have e : (!endC p ks st) = (false && true) := by
          unfold endC
          rw [decide_eq_false hen]
          rfl
        rw [e]
        exact eb_and (b := true) (eb_B (ev_din (k := .inl st) ye y4 (.inr ⟨rfl, hasNo_map (fun s : Int => (Sum.inl s : Key)) (fun s => tyRow (enr p s)) fun s hs e => hen (by rw [← Sum.inl.inj e]; exact hs)⟩))) fun h => by cases h
    · refine st_ret (t := tyB false) ev_c g4.dh fun v D5 H5 g5 t5 => ?_
      obtain ⟨z1, z2, z3, z4⟩ := unlock (x := .dK kvs) True.intro hd hdH (gH3.trans (g4.trans g5))
      refine ⟨z1, q v _ _ (gA.trans z3) ?_⟩
      have t5 : v = .bl false := t5
      subst t5
      have : closP p ks = false := by
        unfold closP
        rw [List.all_eq_false.mpr ⟨st, hst, by simpa using hb⟩]
        rfl
      show V.bl false = .bl (closP p ks)
      rw [this]
    · exact ⟨D4, kD3.trans g4.d, gH3.trans g4, some (.int st), hσ.symm, all_take hi hall (by simpa using hb)⟩
  · rintro s1 D3 H3 kD3 gH3 ⟨x4, rfl, hall⟩
    rw [List.take_length] at hall
    obtain ⟨z1, z2, z3, z4⟩ := unlock (x := .dK kvs) True.intro hd hdH gH3
    refine ⟨z1, ?_⟩
    dsimp only
    have gB := gA.trans z3
    have a1 := (tyProg K p).up z3.d.q w1
    have a2 := (tyN P w ks).up z3.d.q t2
    have a3 : (tyBack p).p (.ref d) _ := (tyBack p).up z3.d.q t3
    generalize hD4 : upd D3 d (.dK kvs) = D4 at gB a1 a2 a3
    generalize hH4 : upd H3 d (.dK kvs) = H4 at gB ⊢
    refine st_for (D0 := D) (H0 := H) (xs := ks) (D := D4) tyPr (fun i s D H => ∃ x4 x5 x6 x7 x8, s = [some v0, some v1, some v2, some (.ref d), x4, x5, x6, x7, x8, none, none] ∧ (ks.take i).all (fun x => (bk p x.1).all (stpC p ks x.2)) = true) (fun z _ => z) (evi_list (ev_cb (ea_cons (ev_var (i := 2) rfl a2) ea_nil) rc_listN)).i gB (fun _ _ _ => ⟨_, _, _, _, _, rfl, rfl⟩) ?_ ?_
    · rintro B kb i x hi s1 D5 H5 y kD5 gH5 ⟨x4, x5, x6, x7, x8, rfl, hall2⟩ ty
      have hxm := List.mem_of_getElem? hi
      obtain ⟨hxs, hxl⟩ := ok.rg x hxm
      have hxr := ok.st x hxm
      refine ga_2 gH5.dh ty fun c1 c2 tc1 tc2 => ?_
      have tc1 : c1 = .int x.1 := tc1
      subst tc1
      have kk := (kb.trans kD5).q
      refine st_for (D0 := D) (H0 := H) (xs := bk p x.1) (D := D5) tyBp (fun j s D H => ∃ x6 x7 x8, s = [some v0, some v1, some v2, some (.ref d), some (.int x.1), some c2, x6, x7, x8, none, none] ∧ ((bk p x.1).take j).all (stpC p ks x.2) = true) (fun z _ => z) (evi_list (ev_dget2 (k := .inl x.1) (u := tyL []) (ev_var (t := tyBack p) (i := 3) rfl ((tyBack p).up kk a3)) (ev_var (t := tyI x.1) (i := 4) rfl rfl) (ev_lst ea_nil) (.inl (has_map (fun k : Int => (Sum.inl k : Key)) (fun k => tyL ((bk p k).map tyBp)) (fun a b e => Sum.inl.inj e) hxr)))).i gH5 (fun _ _ _ => ⟨_, _, _, rfl, rfl⟩) ?_ ?_
      · rintro B2 kb2 j yb hj s2 D6 H6 yv kD6 gH6 ⟨x6, x7, x8, rfl, hall3⟩ tyv
        have hym := List.mem_of_getElem? hj
        have hdue := bk_due o hym
        refine ga_2 gH6.dh tyv fun e1 e2 te1 te2 => ?_
        have te1 : e1 = .int yb.1 := te1
        subst te1
        have k6 := kk.trans (kb2.trans kD6).q
        refine sq_asg (σ := [some v0, some v1, some v2, some (.ref d), some (.int x.1), some c2, some (.int yb.1), some e2, x8, none, none]) (t := tyRows p.regs (p.row yb.1 yb.2)) (ev_op (ev_dgetT (k := dkey yb) (ev_fld (ev_var (t := tyProg K p) (i := 1) rfl ((tyProg K p).up k6 a1)) F.cls_Program F.no_Program_steps rfl) (key_tup (x := yb) (ev_var (i := 6) rfl rfl) (ev_var (i := 7) rfl te2)) (tys_step hdue)) ev_c (rv_ixT rfl)) gH6.dh fun v8 D7 H7 g7 t7 => ?_
        have k7 := k6.trans g7.d.q
        have gH7 := gH6.trans g7
        generalize hσ : [some v0, some v1, some v2, some (V.ref d), some (V.int x.1), some c2, some (V.int yb.1), some e2, x8, none, none].set 8 (some v8) = σ5
        have y2 : Ev (tVar 2) σ5 D7 (tyN P w ks) := ev_var (by rw [← hσ]; rfl) ((tyN P w ks).up k7 a2)
        have y5 : (tyT (x.2.map tyS)).p c2 D7 := (tyT (x.2.map tyS)).up ((kb2.trans kD6).q.trans g7.d.q) tc2
        have y6 : Ev (tVar 6) σ5 D7 (tyI yb.1) := ev_var (by rw [← hσ]; rfl) rfl
        have y8 : Ev (tVar 8) σ5 D7 (tyRows p.regs (p.row yb.1 yb.2)) := ev_var (by rw [← hσ]; rfl) t7
        have z5 : Ev (tVar 5) σ5 D7 (tyT (x.2.map tyS)) := ev_var (by rw [← hσ]; rfl) y5
        have ul : (usesOf (p.row yb.1 yb.2) x.2).length ≤ 1000 := by
          have := uses_len (g := p.row yb.1 yb.2) (live := x.2) (z := 5) fun r hr => (o.row yb hdue r (hxs r hr)).1
          omega
        refine st_ifB (σ := σ5) (v := false || !stpC p ks x.2 yb) (eb_or (a := false) (eb_not (b := true) (eb_B (b := true) (eb_allT (xs := x.2) ?_))) fun _ => eb_not (eb_B (ev_call (ks, yb.1, usesOf (p.row yb.1 yb.2) x.2) ul (ea_cons y2 (ea_cons y6 (ea_cons (ev_call (p.regs, p.row yb.1 yb.2, x.2) ⟨hxs, fun r hr => Nat.le_trans (o.row yb hdue r hr).1 (by decide), ul⟩ (ea_cons y8 (ea_cons (ev_var (t := tySeq (x.2.map tyS)) (i := 5) (by rw [← hσ]; rfl) (.inr y5)) ea_nil))) ea_nil)))))) gH7.dh (fun hb D8 H8 g8 => ?_) (fun hb D8 H8 g8 => ?_)
        · subst hσ
          exact ev_lcm tyS _ (evi_tup z5).i (by omega) fun r hr D8 k8 y hy => lcel rfl (ev_din (k := .inr r) (ev_var (t := tyRows p.regs (p.row yb.1 yb.2)) (i := 8) rfl ((tyRows p.regs _).up k8.q t7)) (ev_var (i := 10) rfl hy) (.inl ⟨rfl, _, has_held (hxs r hr)⟩))
        · refine st_ret (t := tyB false) ev_c g8.dh fun v D9 H9 g9 t9 => ?_
          refine q v _ _ (gH7.trans (g8.trans g9)) ?_
          have t9 : v = .bl false := t9
          subst t9
          have e1 : stpC p ks x.2 yb = false := by simpa using hb
          have e2 : ((bk p x.1).all (stpC p ks x.2)) = false := List.all_eq_false.mpr ⟨yb, hym, by rw [e1]; decide⟩
          have e3 : (ks.all fun x => (bk p x.1).all (stpC p ks x.2)) = false := List.all_eq_false.mpr ⟨x, hxm, by rw [e2]; decide⟩
          show V.bl false = .bl (closP p ks)
          unfold closP
          rw [e3, Bool.and_false]
        · exact ⟨D8, kD6.trans (g7.d.trans g8.d), gH7.trans g8, some (.int yb.1), some e2, some v8, hσ.symm, all_take hj hall3 (by simpa using hb)⟩
      · rintro s2 D6 H6 kD6 gH6 ⟨x6, x7, x8, rfl, hall3⟩
        rw [List.take_length] at hall3
        exact ⟨D6, kD5.trans kD6, gH6, _, _, _, _, _, rfl, all_take hi hall2 hall3⟩
    · rintro s1 D5 H5 kD5 gH5 ⟨x4, x5, x6, x7, x8, rfl, hall2⟩
      rw [List.take_length] at hall2
      dsimp only
      refine st_ret (t := tyB true) ev_c gH5.dh fun v D6 H6 g6 t6 => q v D6 H6 (gH5.trans g6) ?_
      have t6 : v = .bl true := t6
      subst t6
      show V.bl true = .bl (closP p ks)
      unfold closP
      rw [hall, hall2]
      rfl
end
end K02
set_option Elab.async false
set_option linter.all false
set_option maxRecDepth 100000
set_option maxHeartbeats 8000000
namespace K02
open PySem PySem.Spec PyProof.Rows L2 PySem.W
/-! ### what judge_thrifty finds, in plain words -/
theorem nodup_sub_len {α : Type} [DecidableEq α] : ∀ {l m : List α}, l.Nodup → (∀ x ∈ l, x ∈ m) → l.length ≤ m.length
  | [], _, _, _ => Nat.zero_le _
  | a :: r, m, nd, h => by
    obtain ⟨na, nr⟩ := List.nodup_cons.mp nd
    have ha := h a List.mem_cons_self
    have := nodup_sub_len (m := m.erase a) nr fun x hx => (List.mem_erase_of_ne (fun e => na (by rw [← e]; exact hx))).mpr (h x (List.mem_cons_of_mem _ hx))
    rw [List.length_erase_of_mem ha] at this
    have := List.length_pos_of_mem ha
    rw [List.length_cons]
    omega
def childP (p : Pg) (y : Int × Nat) (ns : List Str) : Pr := (y.1, sortS (usesOf (p.row y.1 y.2) ns))
def seedP (p : Pg) (s : Int) : Pr := (s, sortS (regsOf (enr p s)))
inductive Lv (p : Pg) : List Nat → Pr → Prop
  | end_ {s : Int} : s ∈ rch p → s ∈ ens p → (regsOf (enr p s)).Nodup → Lv p [] (seedP p s)
  | step {rs : List Nat} {z : Pr} {y : Int × Nat} : Lv p rs z → y ∈ bk p z.1 → (usesOf (p.row y.1 y.2) z.2).Nodup → Lv p (y.2 :: rs) (childP p y z.2)
theorem Lv.st {p : Pg} {rs : List Nat} {z : Pr} (h : Lv p rs z) : z.1 ∈ rch p := by
  cases h with
  | end_ h1 _ _ => exact h1
  | step _ hy _ => exact (bk_mem.mp hy).1.1
theorem Lv.rg {p : Pg} (o : PgOk p) {rs : List Nat} {z : Pr} (h : Lv p rs z) : z.2.Nodup ∧ ∀ r ∈ z.2, r ∈ p.regs := by
  induction h with
  | end_ h1 h2 h3 => exact ⟨(perm_sortS _).nodup_iff.mpr h3, fun r hr => regs_sub o h2 r ((perm_sortS _).mem_iff.mp hr)⟩
  | step _ hy hn ih => exact ⟨(perm_sortS _).nodup_iff.mpr hn, fun r hr => uses_sub o (bk_due o hy) ih.2 r ((perm_sortS _).mem_iff.mp hr)⟩
theorem regs_two {p : Pg} (o : PgOk p) {ns : List Str} (nd : ns.Nodup) (h : ∀ r ∈ ns, r ∈ p.regs) : ns.length ≤ 2 := Nat.le_trans (nodup_sub_len nd h) o.regsLen
theorem uses_perm {g : Str → List Item} {a b : List Str} (h : a.Perm b) : (usesOf g a).Perm (usesOf g b) := h.flatMap_right _
/-- the registers at the end of a path, seen from its start -/
def endU (p : Pg) (s : Int) (rs : List Nat) : List Str := usesB (rowsR p s rs) (regsOf (enr p (runS p s rs)))
def endI (p : Pg) (s : Int) (rs : List Nat) (i : Nat) : List Str := usesB ((rowsR p s rs).drop i) (regsOf (enr p (runS p s rs)))
theorem endI_zero (p : Pg) (s : Int) (rs : List Nat) : endI p s rs 0 = endU p s rs := rfl
theorem endI_succ (p : Pg) (s : Int) (c : Nat) (rs : List Nat) (i : Nat) : endI p s (c :: rs) (i + 1) = endI p (p.goal s c) rs i := rfl
theorem endU_cons (p : Pg) (s : Int) (c : Nat) (rs : List Nat) : endU p s (c :: rs) = usesOf (p.row s c) (endU p (p.goal s c) rs) := rfl
structure Path (p : Pg) (s : Int) (rs : List Nat) (ns : List Str) : Prop where
  rl : ∀ c ∈ rs, c ∈ p.ls
  en : runS p s rs ∈ ens p
  us : ∀ i ≤ rs.length, (∀ a ∈ endI p s rs i, a ∈ p.regs) ∧ (endI p s rs i).length ≤ 2
  pm : (endU p s rs).Perm ns
theorem path_end {p : Pg} (o : PgOk p) {s : Int} (h2 : s ∈ ens p) (h3 : (regsOf (enr p s)).Nodup) : Path p s [] (seedP p s).2 :=
  ⟨fun c hc => (by cases hc), h2, fun i hi => by
    have : i = 0 := Nat.le_zero.mp hi
    subst this
    exact ⟨regs_sub o h2, regs_two o h3 (regs_sub o h2)⟩, (perm_sortS _).symm⟩
theorem path_cons {p : Pg} (o : PgOk p) {y : Int × Nat} {rs : List Nat} {ns : List Str} (h : Path p (p.goal y.1 y.2) rs ns) (hy : y ∈ due p) (hr : ∀ r ∈ ns, r ∈ p.regs) :
    (endU p y.1 (y.2 :: rs)).Perm (usesOf (p.row y.1 y.2) ns) ∧ (∀ c ∈ y.2 :: rs, c ∈ p.ls) ∧ runS p y.1 (y.2 :: rs) ∈ ens p ∧ (∀ a ∈ endU p y.1 (y.2 :: rs), a ∈ p.regs) ∧
      ∀ i ≤ rs.length, (∀ a ∈ endI p y.1 (y.2 :: rs) (i + 1), a ∈ p.regs) ∧ (endI p y.1 (y.2 :: rs) (i + 1)).length ≤ 2 := by
  have pm : (endU p y.1 (y.2 :: rs)).Perm (usesOf (p.row y.1 y.2) ns) := by
    rw [endU_cons]
    exact uses_perm h.pm
  refine ⟨pm, fun c hc => ?_, h.en, fun a ha => uses_sub o hy hr a (pm.mem_iff.mp ha), h.us⟩
  rcases List.mem_cons.mp hc with rfl | hc
  · exact (due_mem.mp hy).2
  · exact h.rl c hc
theorem Lv.path {p : Pg} (o : PgOk p) {rs : List Nat} {z : Pr} (h : Lv p rs z) : Path p z.1 rs z.2 := by
  induction h with
  | end_ h1 h2 h3 => exact path_end o h2 h3
  | @step rs z y hz hy hn ih =>
    have hg := (bk_mem.mp hy).2
    rw [← hg] at ih
    obtain ⟨h1, h2, h3, h4, h5⟩ := path_cons o ih (bk_due o hy) (hz.rg o).2
    have pm : (endU p y.1 (y.2 :: rs)).Perm (childP p y z.2).2 := h1.trans (perm_sortS _).symm
    refine ⟨h2, h3, fun i hi => ?_, pm⟩
    cases i with
    | zero =>
      rw [endI_zero]
      exact ⟨h4, regs_two o (h1.nodup_iff.mpr hn) h4⟩
    | succ i => exact h5 i (by rw [List.length_cons] at hi; omega)
theorem twOk_end {p : Pg} (o : PgOk p) {cs : List Nat} {s : Int} {nm : Str} (hs : runS p 0 cs = s) (tz : cs.length ≤ 1) (tl : ∀ c ∈ cs, c ∈ p.ls) (he : s ∈ ens p) (hn : 1 < (regsOf (enr p s)).count nm) : TwOk p (cs, [], nm) := by
  subst hs
  refine ⟨by show cs.length ≤ 2; omega, tl, Nat.zero_le _, fun c hc => (by cases hc), he, fun i hi => ?_, hn⟩
  have : i = 0 := Nat.le_zero.mp hi
  subst this
  exact ⟨regs_sub o he, Nat.le_trans (Nat.le_trans (regsOf_len _) (o.en _ he).1) (by decide)⟩
theorem twOk_step {p : Pg} (o : PgOk p) {cs rs : List Nat} {z : Pr} {y : Int × Nat} {nm : Str} (h : Lv p rs z) (hy : y ∈ bk p z.1) (hs : runS p 0 cs = y.1) (tz : cs.length ≤ 1) (tl : ∀ c ∈ cs, c ∈ p.ls) (rz : rs.length ≤ 8)
    (hn : 1 < (usesOf (p.row y.1 y.2) z.2).count nm) : TwOk p (cs, y.2 :: rs, nm) := by
  have hg := (bk_mem.mp hy).2
  have hp := h.path o
  rw [← hg] at hp
  obtain ⟨h1, h2, h3, h4, h5⟩ := path_cons o hp (bk_due o hy) (h.rg o).2
  refine ⟨by show cs.length ≤ 2; omega, tl, by show (y.2 :: rs).length ≤ 9; rw [List.length_cons]; omega, h2, ?_, ?_, ?_⟩
  · show runS p (runS p 0 cs) (y.2 :: rs) ∈ ens p
    rw [hs]
    exact h3
  · intro i hi
    show (∀ a ∈ endI p (runS p 0 cs) (y.2 :: rs) i, a ∈ p.regs) ∧ (endI p (runS p 0 cs) (y.2 :: rs) i).length ≤ 1000
    rw [hs]
    cases i with
    | zero =>
      rw [endI_zero]
      refine ⟨h4, ?_⟩
      rw [h1.length_eq]
      have := uses_len (g := p.row y.1 y.2) (live := z.2) (z := 5) fun r hr => (o.row y (bk_due o hy) r ((h.rg o).2 r hr)).1
      have := regs_two o (h.rg o).1 (h.rg o).2
      omega
    | succ i =>
      have := h5 i (by
        have hi : i + 1 ≤ (y.2 :: rs).length := hi
        rw [List.length_cons] at hi
        omega)
      exact ⟨this.1, Nat.le_trans this.2 (by decide)⟩
  · show 1 < (endU p (runS p 0 cs) (y.2 :: rs)).count nm
    rw [hs, h1.count_eq]
    exact hn
/-- judge_thrifty's entries and what waits -/
abbrev Je := Pr × List Nat
structure JInv (p : Pg) (es : List Je) (ws : List Pr) : Prop where
  nd : (es.map (·.1)).Nodup
  lv : ∀ e ∈ es, Lv p e.2 e.1
  len : ∀ (i : Nat) (e : Je), es[i]? = some e → e.2.length ≤ i
  gen : ∀ (i : Nat) (e : Je), es[i]? = some e → (∃ s ∈ rch p, s ∈ ens p ∧ e.1 = seedP p s) ∨ ∃ j : Nat, j < i ∧ ∃ e' : Je, es[j]? = some e' ∧ ∃ y ∈ bk p e'.1.1, e.1 = childP p y e'.1.2
  sub : ∀ z ∈ ws, z ∈ es.map (·.1)
  seeds : ∀ s ∈ rch p, s ∈ ens p → (regsOf (enr p s)).Nodup ∧ seedP p s ∈ es.map (·.1)
  clo : ∀ z ∈ es.map (·.1), z ∉ ws → ∀ y ∈ bk p z.1, stpC p (es.map (·.1)) z.2 y = true
structure JInvI (p : Pg) (here : Pr) (i : Nat) (es : List Je) (ws : List Pr) : Prop where
  nd : (es.map (·.1)).Nodup
  lv : ∀ e ∈ es, Lv p e.2 e.1
  len : ∀ (i : Nat) (e : Je), es[i]? = some e → e.2.length ≤ i
  gen : ∀ (i : Nat) (e : Je), es[i]? = some e → (∃ s ∈ rch p, s ∈ ens p ∧ e.1 = seedP p s) ∨ ∃ j : Nat, j < i ∧ ∃ e' : Je, es[j]? = some e' ∧ ∃ y ∈ bk p e'.1.1, e.1 = childP p y e'.1.2
  sub : ∀ z ∈ ws, z ∈ es.map (·.1)
  seeds : ∀ s ∈ rch p, s ∈ ens p → (regsOf (enr p s)).Nodup ∧ seedP p s ∈ es.map (·.1)
  hm : here ∈ es.map (·.1)
  clo : ∀ z ∈ es.map (·.1), z ∉ ws → z ≠ here → ∀ y ∈ bk p z.1, stpC p (es.map (·.1)) z.2 y = true
  cur : ∀ y ∈ (bk p here.1).take i, stpC p (es.map (·.1)) here.2 y = true
theorem stpC_mono {p : Pg} {a b : List Pr} {ns : List Str} {y : Int × Nat} (h : ∀ z ∈ a, z ∈ b) (e : stpC p a ns y = true) : stpC p b ns y = true := by
  unfold stpC at e ⊢
  rw [Bool.and_eq_true] at e ⊢
  exact ⟨e.1, decide_eq_true (h _ (of_decide_eq_true e.2))⟩
theorem JInv.pop {p : Pg} {es : List Je} {ws : List Pr} {here : Pr} (r : JInv p es (here :: ws)) : JInvI p here 0 es ws :=
  ⟨r.nd, r.lv, r.len, r.gen, fun z hz => r.sub z (List.mem_cons_of_mem _ hz), r.seeds, r.sub here List.mem_cons_self, fun z hz hw hh => r.clo z hz (by simp [hw, hh]), by simp⟩
theorem JInvI.old {p : Pg} {es : List Je} {ws : List Pr} {here : Pr} {i : Nat} {y : Int × Nat} (r : JInvI p here i es ws) (hy : (bk p here.1)[i]? = some y) (h : stpC p (es.map (·.1)) here.2 y = true) : JInvI p here (i + 1) es ws :=
  ⟨r.nd, r.lv, r.len, r.gen, r.sub, r.seeds, r.hm, r.clo, fun d hd => by
    rw [take_one hy] at hd
    rcases List.mem_append.mp hd with hd | hd
    · exact r.cur d hd
    · rw [List.mem_singleton.mp hd]
      exact h⟩
theorem JInvI.new {p : Pg} {es : List Je} {ws : List Pr} {here : Pr} {rs : List Nat} {i : Nat} {y : Int × Nat} (r : JInvI p here i es ws) (hy : (bk p here.1)[i]? = some y) (he : (here, rs) ∈ es) (hn : (usesOf (p.row y.1 y.2) here.2).Nodup) (h : childP p y here.2 ∉ es.map (·.1)) :
    JInvI p here (i + 1) (es ++ [(childP p y here.2, y.2 :: rs)]) (ws ++ [childP p y here.2]) := by
  have hym := List.mem_of_getElem? hy
  have ek : (es ++ [(childP p y here.2, y.2 :: rs)]).map (·.1) = es.map (·.1) ++ [childP p y here.2] := by rw [List.map_append]; rfl
  obtain ⟨j0, hj0⟩ := List.mem_iff_getElem?.mp he
  have hj1 : j0 < es.length := (List.getElem?_eq_some_iff.mp hj0).1
  have split : ∀ (i : Nat) (e : Je), (es ++ [(childP p y here.2, y.2 :: rs)])[i]? = some e → es[i]? = some e ∨ (i = es.length ∧ e = (childP p y here.2, y.2 :: rs)) := fun i e hi => by
    by_cases c : i < es.length
    · rw [List.getElem?_append_left c] at hi
      exact .inl hi
    · have c2 := (List.getElem?_eq_some_iff.mp hi).1
      rw [List.length_append] at c2
      simp at c2
      have : i = es.length := by omega
      subst this
      rw [List.getElem?_concat_length] at hi
      exact .inr ⟨rfl, (Option.some.inj hi).symm⟩
  refine ⟨?_, fun e hem => ?_, fun i e hi => ?_, fun i e hi => ?_, fun z hz => ?_, fun s h1 h2 => ?_, ?_, fun z hz hw hh y2 hy2 => ?_, fun y2 hy2 => ?_⟩
  · rw [ek]
    exact List.nodup_append.mpr ⟨r.nd, by simp, fun a ha b hb e => h (by simp at hb; rw [← hb, ← e]; exact ha)⟩
  · rcases List.mem_append.mp hem with hem | hem
    · exact r.lv e hem
    · rw [List.mem_singleton.mp hem]
      exact .step (r.lv _ he) hym hn
  · rcases split i e hi with hi | ⟨rfl, rfl⟩
    · exact r.len i e hi
    · have := r.len j0 _ hj0
      show (y.2 :: rs).length ≤ es.length
      rw [List.length_cons]
      have : rs.length ≤ j0 := this
      omega
  · rcases split i e hi with hi | ⟨rfl, rfl⟩
    · rcases r.gen i e hi with g | ⟨j, hj, e', he', g⟩
      · exact .inl g
      · have hi2 := (List.getElem?_eq_some_iff.mp hi).1
        exact .inr ⟨j, hj, e', by rw [List.getElem?_append_left (by omega)]; exact he', g⟩
    · exact .inr ⟨j0, hj1, (here, rs), by rw [List.getElem?_append_left hj1]; exact hj0, y, hym, rfl⟩
  · rw [ek]
    rcases List.mem_append.mp hz with hz | hz
    · exact List.mem_append_left _ (r.sub z hz)
    · exact List.mem_append_right _ hz
  · rw [ek]
    exact ⟨(r.seeds s h1 h2).1, List.mem_append_left _ (r.seeds s h1 h2).2⟩
  · rw [ek]
    exact List.mem_append_left _ r.hm
  · rw [ek] at hz ⊢
    rcases List.mem_append.mp hz with hz | hz
    · exact stpC_mono (fun z hz => List.mem_append_left _ hz) (r.clo z hz (fun c => hw (List.mem_append_left _ c)) hh y2 hy2)
    · exact absurd (List.mem_append_right _ hz) hw
  · rw [ek]
    rw [take_one hy] at hy2
    rcases List.mem_append.mp hy2 with hy2 | hy2
    · exact stpC_mono (fun z hz => List.mem_append_left _ hz) (r.cur y2 hy2)
    · rw [List.mem_singleton.mp hy2]
      unfold stpC
      rw [decide_eq_true hn]
      exact decide_eq_true (List.mem_append_right _ (List.mem_singleton.mpr rfl))
theorem JInvI.fin {p : Pg} {es : List Je} {ws : List Pr} {here : Pr} (r : JInvI p here (bk p here.1).length es ws) : JInv p es ws :=
  ⟨r.nd, r.lv, r.len, r.gen, r.sub, r.seeds, fun z hz hw y hy => by
    by_cases h : z = here
    · subst h
      exact r.cur y (by rw [List.take_length]; exact hy)
    · exact r.clo z hz hw h y hy⟩
/-- at most eight -/
def allNs : List (List Str) := [[], ["x"], ["y"], ["x", "y"]]
theorem ns_all {p : Pg} (o : PgOk p) {ns : List Str} (nd : ns.Nodup) (h : ∀ r ∈ ns, r ∈ p.regs) : sortS ns ∈ allNs := by
  have hxy : ∀ r ∈ ns, r = ("x" : Str) ∨ r = ("y" : Str) := fun r hr => by
    have := h r hr
    rcases o.regs with e | e | e <;> rw [e] at this <;> simp at this <;> first | exact .inl this | exact this
  have h2 := regs_two o nd h
  have hs : sortS [("x" : Str), "y"] = [("x" : Str), "y"] := by
    refine List.mergeSort_of_pairwise ?_
    decide +kernel
  match ns, nd, hxy, h2 with
  | [], _, _, _ => decide +kernel
  | [a], _, hh, _ =>
    rcases hh a (by simp) with rfl | rfl <;> decide +kernel
  | [a, b], nd, hh, _ =>
    rcases hh a (by simp) with rfl | rfl <;> rcases hh b (by simp) with rfl | rfl
    · simp at nd
    · rw [hs]
      decide +kernel
    · rw [sortS_perm (List.Perm.swap ("x" : Str) "y" []), hs]
      decide +kernel
    · simp at nd
theorem prs_len {p : Pg} (o : PgOk p) {zs : List Pr} (nd : zs.Nodup) (h : ∀ z ∈ zs, z.1 ∈ rch p ∧ ∃ ns : List Str, ns.Nodup ∧ (∀ r ∈ ns, r ∈ p.regs) ∧ z.2 = sortS ns) : zs.length ≤ 8 := by
  have h1 : ∀ z ∈ zs, z ∈ (rch p).flatMap fun s => allNs.map fun ns => (s, ns) := fun z hz => by
    obtain ⟨h1, ns, h2, h3, h4⟩ := h z hz
    refine List.mem_flatMap.mpr ⟨z.1, h1, List.mem_map.mpr ⟨z.2, ?_, rfl⟩⟩
    rw [h4]
    exact ns_all o h2 h3
  refine Nat.le_trans (nodup_sub_len nd h1) ?_
  rw [List.length_flatMap]
  have h2 := rch_len p
  rcases hr : rch p with _ | ⟨a, _ | ⟨b, _ | ⟨c, r⟩⟩⟩
  · decide
  · simp [allNs]
  · simp [allNs]
  · rw [hr] at h2
    simp at h2
theorem Lv.srt {p : Pg} (o : PgOk p) {rs : List Nat} {z : Pr} (h : Lv p rs z) : ∃ ns : List Str, ns.Nodup ∧ (∀ r ∈ ns, r ∈ p.regs) ∧ z.2 = sortS ns := by
  cases h with
  | end_ h1 h2 h3 => exact ⟨_, h3, regs_sub o h2, rfl⟩
  | step hz hy hn => exact ⟨_, hn, uses_sub o (bk_due o hy) (hz.rg o).2, rfl⟩
theorem es_len {p : Pg} (o : PgOk p) {es : List Je} (nd : (es.map (·.1)).Nodup) (lv : ∀ e ∈ es, Lv p e.2 e.1) : es.length ≤ 8 := by
  have := prs_len o nd fun z hz => by
    obtain ⟨e, he, rfl⟩ := List.mem_map.mp hz
    exact ⟨(lv e he).st, (lv e he).srt o⟩
  rwa [List.length_map] at this
/-- judge's start -/
def seedsL (p : Pg) (l : List Int) : List Int := l.filter fun s => decide (s ∈ ens p)
theorem JInv.start {p : Pg} (h : ∀ s ∈ rch p, s ∈ ens p → (regsOf (enr p s)).Nodup) : JInv p ((seedsL p (rch p)).map fun s => (seedP p s, [])) ((seedsL p (rch p)).map (seedP p)) := by
  have ek : ((seedsL p (rch p)).map fun s => ((seedP p s, []) : Je)).map (·.1) = (seedsL p (rch p)).map (seedP p) := by rw [List.map_map]; rfl
  have hm : ∀ s, s ∈ seedsL p (rch p) ↔ s ∈ rch p ∧ s ∈ ens p := fun s => by
    unfold seedsL
    rw [List.mem_filter]
    simp
  refine ⟨?_, fun e he => ?_, fun i e hi => ?_, fun i e hi => ?_, fun z hz => by rw [ek]; exact hz, fun s h1 h2 => ⟨h s h1 h2, ?_⟩, fun z hz hw => ?_⟩
  · rw [ek]
    exact List.Pairwise.map _ (fun a b hab e => hab (by have := congrArg Prod.fst e; exact this)) ((rch_nd p).filter _)
  · obtain ⟨s, hs, rfl⟩ := List.mem_map.mp he
    have := (hm s).mp hs
    exact .end_ this.1 this.2 (h s this.1 this.2)
  · obtain ⟨s, hs, rfl⟩ := List.mem_map.mp (List.mem_of_getElem? hi)
    exact Nat.zero_le _
  · obtain ⟨s, hs, rfl⟩ := List.mem_map.mp (List.mem_of_getElem? hi)
    have := (hm s).mp hs
    exact .inl ⟨s, this.1, this.2, rfl⟩
  · rw [ek]
    exact List.mem_map.mpr ⟨s, (hm s).mpr ⟨h1, h2⟩, rfl⟩
  · rw [ek] at hz
    exact absurd hz hw
end K02
set_option Elab.async false
set_option linter.all false
set_option maxRecDepth 100000
set_option maxHeartbeats 8000000
namespace K02
open PySem PySem.Spec PyProof.Rows L2 PySem.W
section
variable {P : Program} {w : World} {K : PySem.W.Frag} {mg : Str → Option Value} {base : Heap}
variable {σ : Sl} {D D' H : Hp} {te ta tb tk tv td : TE} {t u z : Ty} {ts : List Ty}
/-! ### a dict of pairs that grows -/
theorem nf_nd {a : Addr} {L : List Ent} : NoFz (NDict P w a L) := fun x y e => by cases e
def NdS (es : List Je) (L : List Ent) (D : Hp) : Prop := Paired (fun (l : Ent) (e : Je) => l.1 = e.1 ∧ l.2.2 = .str (txt e.2) ∧ PrAt D l.2.1 l.1) L es
theorem NdS.up {es : List Je} {L : List Ent} (k : Kq D D') (h : NdS es L D) : NdS es L D' := Paired.mapP h fun _ _ z => ⟨z.1, z.2.1, z.2.2.up k⟩
theorem NdS.keys {es : List Je} {L : List Ent} (h : NdS es L D) : L.map (·.1) = es.map (·.1) ∧ PrKeys D L := by
  unfold NdS at h
  induction h with
  | nil => exact ⟨rfl, fun l hl => by cases hl⟩
  | cons r _ ih =>
    refine ⟨by rw [List.map_cons, List.map_cons, ih.1, r.1], fun l hl => ?_⟩
    rcases List.mem_cons.mp hl with rfl | hl
    · exact r.2.2
    · exact ih.2 l hl
theorem NdS.val {es : List Je} {L : List Ent} (h : NdS es L D) (nd : (es.map (·.1)).Nodup) {e : Je} (he : e ∈ es) : valN L e.1 = some (.str (txt e.2)) := by
  obtain ⟨i, hi⟩ := List.mem_iff_getElem?.mp he
  obtain ⟨l, hl, h1, h2, _⟩ := pr_get h hi
  have := valN_some (L := L) (by rw [h.keys.1]; exact nd) (List.mem_of_getElem? hl)
  rw [h1, h2] at this
  exact this
theorem nget_loc {i : Nat} {a : Addr} {L : List Ent} {p : Pr} {v : V} (hd : σ[i]? = some (some (.ref a))) (c : Loc a (NDict P w a L) D H) (pk : PrKeys D L) (ek : Ev tk σ D (tyPr p)) (kp : Kp D H) (hv : valN L p = some v) : EvAt (tNGet P w (tVar i) tk) σ D H (tyV v) := fun Q q =>
  ⟨.ref a, hd, ek.use kp fun y D1 H1 g1 hy => by
    obtain ⟨qa, rfl, hq⟩ := prAt_ty hy
    have c1 := c.grow (x := NDict P w a L) True.intro g1
    exact ⟨a, qa, p, L, v, rfl, rfl, .inl c1.h, (pk.up g1.d.q).up g1.dh.q, hq.up g1.dh.q, hv, q v D1 H1 g1 rfl⟩⟩
theorem nnotin_loc {i : Nat} {a : Addr} {L : List Ent} {p : Pr} {Q : Bool → Hp → Prop} (hd : σ[i]? = some (some (.ref a))) (c : Loc a (NDict P w a L) D H) (pk : PrKeys D L) (ek : Ev tk σ D (tyPr p)) (kp : Kp D H) (q : ∀ D1 H1, Grow D H D1 H1 → Q (!decide (p ∈ L.map (·.1))) H1) : tB (tNNotIn P w tk (tVar i)) σ H Q := ek.use kp fun y D1 H1 g1 hy => by
  obtain ⟨qa, rfl, hq⟩ := prAt_ty hy
  have c1 := c.grow (x := NDict P w a L) True.intro g1
  refine ⟨.ref a, hd, a, qa, p, L, rfl, rfl, .inl c1.h, (pk.up g1.d.q).up g1.dh.q, hq.up g1.dh.q, _, rfl, ?_⟩
  rw [valN_in]
  exact q D1 H1 g1
theorem st_nput {E : Ends} {i : Nat} {a : Addr} {L : List Ent} {p : Pr} (hd : σ[i]? = some (some (.ref a))) (c : Loc a (NDict P w a L) D H) (pk : PrKeys D L) (ev : EvAt tv σ D H t) (ek : ∀ D1 H1, Grow D H D1 H1 → EvAt tk σ D1 H1 (tyPr p)) (no : p ∉ L.map (·.1)) (z : L.length < 100000)
    (q : ∀ v qa D1 H1, Grow D H D1 H1 → t.p v D1 → PrAt D1 qa p → Loc a (NDict P w a L) D1 H1 → E.nx σ (upd H1 a (NDict P w a (L ++ [(p, qa, v)])))) : sNPut P w (tVar i) tk tv E σ H := ev _ fun v D1 H1 g1 hv => ⟨.ref a, hd, ek D1 H1 g1 _ fun y D2 H2 g2 hy => by
    obtain ⟨qa, rfl, hq⟩ := prAt_ty hy
    have gg := g1.trans g2
    have c2 := c.grow (x := NDict P w a L) True.intro gg
    exact ⟨a, qa, p, L, rfl, rfl, c2.h, (pk.up gg.d.q).up gg.dh.q, hq.up gg.dh.q, no, Nat.lt_of_lt_of_le z (by decide), q v qa D2 H2 gg (t.up g2.d.q hv) hq c2⟩⟩
theorem sq_nput {E : Ends} {b : TS} {i : Nat} {a : Addr} {L : List Ent} {p : Pr} (hd : σ[i]? = some (some (.ref a))) (c : Loc a (NDict P w a L) D H) (pk : PrKeys D L) (ev : EvAt tv σ D H t) (ek : ∀ D1 H1, Grow D H D1 H1 → EvAt tk σ D1 H1 (tyPr p)) (no : p ∉ L.map (·.1)) (z : L.length < 100000)
    (q : ∀ v qa D1 H1, Grow D H D1 H1 → t.p v D1 → PrAt D1 qa p → Loc a (NDict P w a L) D1 H1 → b E σ (upd H1 a (NDict P w a (L ++ [(p, qa, v)])))) : tSeq (sNPut P w (tVar i) tk tv) b E σ H := st_nput (E := { E with nx := b E }) hd c pk ev ek no z q
/-- len(d) -/
theorem nlen_loc {i : Nat} {a : Addr} {L : List Ent} (hd : σ[i]? = some (some (.ref a))) (c : Loc a (NDict P w a L) D H) (pk : PrKeys D L) (kp : Kp D H) : EvAt (tCB (fun xs H Q => ∃ a L, xs = [V.ref a] ∧ Rd H a (NDict P w a L) ∧ PrKeys H L ∧ Q (.int L.length) H) (tCons (tVar i) tNil)) σ D H (tyI L.length) := fun Q q =>
  ⟨.ref a, hd, a, L, rfl, .inl c.h, pk.up kp.q, q _ D H (Grow.refl kp) rfl⟩
/-- sorted(d) -/
theorem seen_all {H' : Hp} : ∀ {ys : List V} {ps : List Pr} {D' : Hp}, Grow D H D' H' → Paired (fun (x : V) (p : Pr) => ∃ q, x = .ref q ∧ PrAt H' q p) ys ps → ∃ D2, Grow D H D2 H' ∧ Kp D' D2 ∧ TysAt (ps.map tyPr) ys D2
  | _, _, D', g, .nil => ⟨D', g, Kp.refl _, .nil⟩
  | _, _, D', g, .cons r t => by
    obtain ⟨qa, rfl, hq⟩ := r
    obtain ⟨D1, g1, k1, s1⟩ := PrAt.seen g hq
    obtain ⟨D2, g2, k2, t2⟩ := seen_all g1 t
    exact ⟨D2, g2, k1.trans k2, .cons (s1.up k2.q).ty t2⟩
theorem srtN_loc {i : Nat} {a : Addr} {es : List Je} {L : List Ent} (hd : σ[i]? = some (some (.ref a))) (c : Loc a (NDict P w a L) D H) (hs : NdS es L D) (kp : Kp D H) (hz : es.length ≤ 100000) : EvAt (tCB (fun xs H Q => ∃ a L, xs = [V.ref a] ∧ Rd H a (NDict P w a L) ∧ PrKeys H L ∧ L.length ≤ 100000 ∧
    ∀ ys p, Paired (fun (x : V) (p : Pr) => ∃ q, x = .ref q ∧ PrAt H q p) ys (srtPr (L.map (·.1))) → H p = none → Q (.ref p) (upd H p (.lst ys))) (tCons (tVar i) tNil)) σ D H (tyL ((srtPr (es.map (·.1))).map tyPr)) := fun Q q => by
  refine ⟨.ref a, hd, a, L, rfl, .inl c.h, hs.keys.2.up kp.q, by rw [pr_len hs]; exact hz, fun ys l hp hl => ?_⟩
  rw [hs.keys.1] at hp
  obtain ⟨D2, g2, _, t2⟩ := seen_all (Grow.refl kp) hp
  refine q (.ref l) _ _ (g2.add hl (.inl True.intro)) ⟨l, ys, rfl, upd_same, TysAt.up (Kp.new (g2.dh.dom hl) (nofz_of (.inl (show Fixd (.lst _) from True.intro)))).q t2⟩
/-- a constructor, its arguments known in part -/
theorem ev_makeX {α : Type} {C : Addr} {A : α → List Ty} {B : α → List (Str × Ty)} {Cn R : α → Prop} {E : XK} {tl : TA} {Q : VK} (e : ∀ Q1 : List V → Hp → Prop, (∀ vs D1 H1, Grow D H D1 H1 → TysAt ts vs D1 → Q1 vs H1) → tl σ H Q1) (hx : ∀ vs D1, TysAt ts vs D1 → ∃ x, Cn x ∧ R x ∧ TysAt (A x) vs D1)
    (q : ∀ x v D1 H1, R x → Grow D H D1 H1 → (tyO C (B x)).p v D1 → Q v H1) : tMake C (SpJ C A B Cn) [] E tl σ H Q := e _ fun vs D2 H2 g2 tv a dx ha hdx ne => by
  obtain ⟨x, cx, rx, tx⟩ := hx vs D2 tv
  rw [List.append_nil]
  have g3 := (Grow.refl g2.dh).add (u := .own a) hdx (.inl True.intro)
  have ha2 : upd H2 dx (.own a) a = none := by rw [upd_ne (fun z => ne z.symm)]; exact ha
  have g4 := g3.mut ha (g3.dh.dom ha2) (nf_ins (C := C) (dx := dx) (fs := []))
  refine ⟨x, a, dx, vs, _, D2, H2, rfl, cx, g4, ha, ⟨g3.dh.dom ha2, upd_same⟩, TysAt.up g4.d.q tx, fun D' H' fs g5 c5 kv => ⟨rfl, ?_⟩⟩
  obtain ⟨g6, k6⟩ := c5.own g5 ha (.inl True.intro)
  exact q x (.ref a) _ H' rx (g2.trans g6) ⟨a, dx, fs, rfl, upd_same, KvsAt.up k6.q kv⟩
theorem eaA_nil (k : Kp D H) : ∀ Q1 : List V → Hp → Prop, (∀ vs D1 H1, Grow D H D1 H1 → TysAt [] vs D1 → Q1 vs H1) → tNil σ H Q1 := fun Q1 q => q [] D H (Grow.refl k) .nil
theorem eaA_cons {tr : TA} (e : EvAt te σ D H t) (er : ∀ D1 H1, Grow D H D1 H1 → ∀ Q1 : List V → Hp → Prop, (∀ vs D2 H2, Grow D1 H1 D2 H2 → TysAt ts vs D2 → Q1 vs H2) → tr σ H1 Q1) : ∀ Q1 : List V → Hp → Prop, (∀ vs D1 H1, Grow D H D1 H1 → TysAt (t :: ts) vs D1 → Q1 vs H1) → tCons te tr σ H Q1 := fun Q1 q =>
  e _ fun x D2 H2 g2 tx => er D2 H2 g2 _ fun xs D3 H3 g3 txs => q (x :: xs) D3 H3 (g2.trans g3) (.cons (t.up g3.d.q tx) txs)
end
/-! ### pairs as data, within bounds -/
theorem dp_pr {K : PySem.W.Frag} (p : Pr) : IsDp K (tyPr p) (dPr p) := dp_tup2 dp_int (dp_tup fun _ => dp_str)
theorem shaped_prs {p : Pg} (o : PgOk p) {ws : List Pr} (h : ∀ z ∈ ws, ∀ r ∈ z.2, r ∈ p.regs) : SeqAt.shaped (.list (ws.map dPr)) = true := by
  have hr : ∀ r ∈ p.regs, PyData.strOk r = true := fun r hr => by
    have : ∀ r ∈ (["x", "y"] : List Str), PyData.strOk r = true := by decide +kernel
    rcases o.regs with e | e | e <;> rw [e] at hr
    · cases hr
    · exact this r (by rw [List.mem_singleton.mp hr]; decide +kernel)
    · exact this r hr
  have hs : ∀ ns : List Str, (∀ r ∈ ns, r ∈ p.regs) → PyData.canLayAll0 (ns.map PyData.str) = true := fun ns h => by
    induction ns with
    | nil => rfl
    | cons a r ih =>
      rw [List.map_cons]
      show (PyData.strOk a && _) = true
      rw [hr a (h a List.mem_cons_self), ih fun x hx => h x (List.mem_cons_of_mem _ hx)]
      rfl
  have c : PyData.canLayAll0 (ws.map dPr) = true := by
    induction ws with
    | nil => rfl
    | cons a r ih =>
      rw [List.map_cons]
      show ((true && (PyData.canLayAll0 (a.2.map PyData.str) && true)) && PyData.canLayAll0 (r.map dPr)) = true
      rw [hs a.2 (h a List.mem_cons_self), ih fun x hx => h x (List.mem_cons_of_mem _ hx)]
      rfl
  have d : PyData.depthAll (ws.map dPr) ≤ 8 := by
    clear h c
    induction ws with
    | nil => exact Nat.zero_le _
    | cons a r ih =>
      rw [List.map_cons]
      show max (dPr a).depth _ ≤ 8
      exact Nat.max_le.mpr ⟨pr_ddepth a, ih⟩
  show (PyData.canLayAll0 (ws.map dPr) && decide (PyData.depthAll (ws.map dPr) + 1 ≤ 64)) = true
  rw [c, decide_eq_true (by omega)]
  rfl
/-! ### judge_thrifty -/
def TwWhy (p : Pg) : Prop := (∃ s ∈ rch p, s ∈ ens p ∧ ¬ (regsOf (enr p s)).Nodup) ∨ ∃ rs z y, Lv p rs z ∧ rs.length ≤ 8 ∧ y ∈ bk p z.1 ∧ ¬ (usesOf (p.row y.1 y.2) z.2).Nodup
def tyJ (K : PySem.W.Frag) (p : Pg) : Ty := ⟨fun v H => (∃ es, JInv p es [] ∧ (tyThr K (srtPr (es.map (·.1)))).p v H) ∨ (∃ x, TwOk p x ∧ TwWhy p ∧ (tyTwi K x).p v H),
  fun k h => h.imp (fun ⟨es, j, t⟩ => ⟨es, j, Ty.up _ k t⟩) fun ⟨x, a, b, t⟩ => ⟨x, a, b, Ty.up _ k t⟩⟩
end K02
set_option Elab.async false
set_option linter.all false
set_option maxRecDepth 100000
set_option maxHeartbeats 8000000
namespace K02
open PySem PySem.Spec PyProof.Rows L2 PySem.W
section
variable {P : Program} {w : World} {K : PySem.W.Frag} {mg : Str → Option Value} {base : Heap}
variable {σ : Sl} {D D' H : Hp} {te ta tb tk tv td : TE} {t u z : Ty} {ts : List Ty}
theorem seedsL_app (p : Pg) (l : List Int) (s : Int) : seedsL p (l ++ [s]) = seedsL p l ++ if s ∈ ens p then [s] else [] := by
  unfold seedsL
  rw [List.filter_append]
  by_cases h : s ∈ ens p
  · rw [if_pos h, List.filter_cons, if_pos (by simpa using h)]
    rfl
  · rw [if_neg h, List.filter_cons, if_neg (by simpa using h)]
    rfl
theorem sq_pop0G {E : Ends} {i : Nat} {l : Addr} {g : TG} {acc : List V} {y : V} {b : TS} (hl : σ[i]? = some (some (.ref l))) (c : Loc l (.lst (y :: acc)) D H) (q : g y σ (upd H l (.lst acc)) (b E)) : tSeq (tAsg (tBM K "list" rPopAt (tVar i) (tCons (tC (.int 0)) tNil)) g) b E σ H :=
  ⟨.ref l, hl, .inl ⟨rfl, _, SqL.of c.h⟩, rPop0 (Q := fun x H1 => g x σ H1 (b E)) c.h q⟩
abbrev sp_judge (K : PySem.W.Frag) : Sp := SpN (fun p : Pg => [tyProg K p]) (fun p => tyJ K p) PgOk
def JdS (P : Program) (w : World) (p : Pg) (v0 : V) (d rl wl : Addr) (i : Nat) (s : Sl) (D H : Hp) : Prop := ∃ (L : List Ent) (acc : List V) (x4 x5 : Option V), s = [some v0, some (.ref d), some (.ref rl), some (.ref wl), x4, x5, none, none, none, none] ∧ Loc rl (NDict P w rl L) D H ∧ Loc wl (.lst acc) D H ∧
  NdS ((seedsL p ((rch p).take i)).map fun s => (seedP p s, [])) L D ∧ TysAt (((seedsL p ((rch p).take i)).map (seedP p)).map tyPr) acc D ∧ ∀ s ∈ (rch p).take i, s ∈ ens p → (regsOf (enr p s)).Nodup
def JdW (P : Program) (w : World) (p : Pg) (v0 : V) (d rl wl : Addr) (m : Nat) (s : Sl) (D H : Hp) : Prop := ∃ (L : List Ent) (acc : List V) (es : List Je) (ws : List Pr) (x4 x5 x6 x7 x8 x9 : Option V), s = [some v0, some (.ref d), some (.ref rl), some (.ref wl), x4, x5, x6, x7, x8, x9] ∧ Loc rl (NDict P w rl L) D H ∧ Loc wl (.lst acc) D H ∧
  NdS es L D ∧ TysAt (ws.map tyPr) acc D ∧ JInv p es ws ∧ (2 * (8 - es.length) + ws.length ≤ m ∧ 2 * (8 - es.length) + ws.length ≤ 24)
def JdJ (P : Program) (w : World) (p : Pg) (v0 : V) (d rl wl : Addr) (here : Pr) (m i : Nat) (s : Sl) (D H : Hp) : Prop := ∃ (L : List Ent) (acc : List V) (es : List Je) (ws : List Pr) (c5 : V) (x6 x7 x8 x9 : Option V), s = [some v0, some (.ref d), some (.ref rl), some (.ref wl), some (.int here.1), some c5, x6, x7, x8, x9] ∧ (tyT (here.2.map tyS)).p c5 D ∧ Loc rl (NDict P w rl L) D H ∧ Loc wl (.lst acc) D H ∧
  NdS es L D ∧ TysAt (ws.map tyPr) acc D ∧ JInvI p here i es ws ∧ (2 * (8 - es.length) + ws.length + 1 ≤ m ∧ 2 * (8 - es.length) + ws.length + 1 ≤ 24)
theorem nd_ne_lst {rl wl : Addr} {L : List Ent} {acc : List V} (c1 : Loc rl (NDict P w rl L) D H) (c2 : Loc wl (.lst acc) D H) : rl ≠ wl := c1.ne c2 (by intro e; cases e)
theorem cal_judge_thrifty (F : Fc K mg) : Cal P w K mg base 3 "judge_thrifty" (sp_judge K) := mk_judge_thrifty F (fun _ _ _ _ h => SpN.len (n := 1) (fun _ => rfl) h) fun f cdv A outer s H vs Q E hr h => by
  have nd := sc_judge_thrifty.nd
  have hu := Nat.lt_of_le_of_lt (Nat.add_le_add_left (by decide : 1 ≤ 64) _) hr.units
  have c_check_program := cal_check_program (P := P) (w := w) (base := base) F
  have c_backwards := cal_backwards (P := P) (w := w) (base := base) F
  have c_registers_in := cal_registers_in (P := P) (w := w) (base := base) F
  have c_has_twice := cal_has_twice (P := P) (w := w) (base := base) F
  have c_first_text := cal_first_text (P := P) (w := w) (base := base) F
  have c_first_twice := cal_first_twice (P := P) (w := w) (base := base) F
  have c_uses_of := cal_uses_of (P := P) (w := w) (base := base) F
  have c_Twice := cal_Twice_init (P := P) (w := w) (base := base) F
  have c_Thrifty := cal_Thrifty_init (P := P) (w := w) (base := base) F
  obtain ⟨p, D, o, nl, k, tv, q⟩ := h
  dsimp only at o tv q
  refine ⟨_, (pss_cons (ps_expr (pe_cal c_check_program hr (by decide) (by rfl) (pa_cons (pv 0) pa_nil)))
    (pss_cons (ps_par3 (i := 1) (j := 2) (l := 3) rfl nd rfl rfl rfl (by decide) (by decide) (by decide) rfl rfl rfl (pa_cons (pe_cal c_backwards hr (by decide) (by rfl) (pa_cons (pv 0) pa_nil)) (pa_cons pe_nnew (pa_cons (pe_lst pa_nil) pa_nil))) rfl)
    (pss_cons (ps_lock (ps_for PassesOwn.never rfl (pi_keys (pv 1)) (pg_name (i := 4) nd rfl (.inl rfl)) (pss_one (ps_if (pt_cmp (pc_din hu (pv 4) (k_fld (pv 0) rfl))) (pss_cons (ps_set (i := 5) nd rfl (.inl rfl) (pe_cal c_registers_in hr (by decide) (by rfl) (pa_cons (pe_dget hu (k_fld (pv 0) rfl) (pv 4) (fun _ _ => rfl)) pa_nil)))
        (pss_cons (ps_if (pt_val (pe_cal c_has_twice hr (by decide) (by rfl) (pa_cons (pv 5) pa_nil))) (pss_one (ps_ret (pe_mak c_Twice hr (by decide) (by rfl) (pa_cons (pe_cal c_first_text hr (by decide) (by rfl) (pa_cons (pv 0) (pa_cons (pv 4) pa_nil))) (pa_cons pe_str (pa_cons (pe_cal c_first_twice hr (by decide) (by rfl) (pa_cons (pv 5) pa_nil)) pa_nil)))))) pss_nil)
        (pss_cons (ps_expr (pe_bm PySem.F.plainAttrs_list PySem.F.slot_list_append PySem.F.type_list_append mt_append (pv 3) (pa_cons (pe_tup (pa_cons (pv 4) (pa_cons (pe_callTy k_tuple_of (by rfl) F.f_tuple bt_tuple (pa_cons (pe_callB (cr_srtL hr.units) (by rfl) F.f_sorted bt_sorted (pa_cons (pv 5) pa_nil)) pa_nil)) pa_nil))) pa_nil)))
        (pss_one (ps_nput hr.units (pv 2) (pe_ix k_ix_list (pv 3) (pe_un un_neg pe_int) (fun _ _ => rfl)) pe_str rfl))))) pss_nil))))
    (pss_cons (ps_while PassesOwn.never (pt_cmpR (k_neD hr.units) (pv 3) (pe_lst pa_nil) (nomark _)) (pss_cons (ps_asg (pe_bm PySem.F.plainAttrs_list PySem.F.slot_list_pop PySem.F.type_list_pop mt_popAt (pv 3) (pa_cons pe_int pa_nil)) (k_pg_tup (n := 2) rfl (pgs_cons (pg_name (i := 4) nd rfl (.inl rfl)) (pgs_cons (pg_name (i := 5) nd rfl (.inl rfl)) pgs_nil))))
      (pss_cons (ps_for PassesOwn.never rfl (k_pi_list (pe_dget hu (pv 1) (pv 4) (fun _ _ => rfl))) (k_pg_tup (n := 2) rfl (pgs_cons (pg_name (i := 6) nd rfl (.inl rfl)) (pgs_cons (pg_name (i := 7) nd rfl (.inl rfl)) pgs_nil))) (pss_cons (ps_set (i := 8) nd rfl (.inl rfl) (pe_cal c_uses_of hr (by decide) (by rfl) (pa_cons (pe_ix k_ix_tup (pe_dget hu (k_fld (pv 0) rfl) (pe_tup (pa_cons (pv 6) (pa_cons (pv 7) pa_nil))) (fun _ _ => rfl)) pe_int (fun _ _ => rfl)) (pa_cons (pv 5) pa_nil))))
        (pss_cons (ps_if (pt_val (pe_cal c_has_twice hr (by decide) (by rfl) (pa_cons (pv 8) pa_nil))) (pss_one (ps_ret (pe_mak c_Twice hr (by decide) (by rfl) (pa_cons (pe_cal c_first_text hr (by decide) (by rfl) (pa_cons (pv 0) (pa_cons (pv 6) pa_nil))) (pa_cons (pe_op op_add_str (pv 7) (pe_nget hr.units (pv 2) (pe_tup (pa_cons (pv 4) (pa_cons (pv 5) pa_nil))) (fun _ _ => rfl))) (pa_cons (pe_cal c_first_twice hr (by decide) (by rfl) (pa_cons (pv 8) pa_nil)) pa_nil)))))) pss_nil)
        (pss_cons (ps_set (i := 9) nd rfl (.inl rfl) (pe_tup (pa_cons (pv 6) (pa_cons (pe_callTy k_tuple_of (by rfl) F.f_tuple bt_tuple (pa_cons (pe_callB (cr_srtL hr.units) (by rfl) F.f_sorted bt_sorted (pa_cons (pv 8) pa_nil)) pa_nil)) pa_nil))))
        (pss_one (ps_if (pt_cmp (pc_nnotin hr.units (pv 9) (pv 2))) (pss_cons (ps_nput hr.units (pv 2) (pv 9) (pe_op op_add_str (pv 7) (pe_nget hr.units (pv 2) (pe_tup (pa_cons (pv 4) (pa_cons (pv 5) pa_nil))) (fun _ _ => rfl))) rfl)
          (pss_one (ps_expr (pe_bm PySem.F.plainAttrs_list PySem.F.slot_list_append PySem.F.type_list_append mt_append (pv 3) (pa_cons (pv 9) pa_nil))))) pss_nil))))))
      (pss_one (ps_if (pt_cmpR op_gt (pe_callB call_lenN (by rfl) F.f_len bt_len (pa_cons (pv 2) pa_nil)) (C8.pe_gc (by rfl) F.vi_MOST_LIVES) (nomark _)) (pss_one ps_never) pss_nil)))))
    (pss_one (ps_ret (pe_mak c_Thrifty hr (by decide) (by rfl) (pa_cons (pe_callB (cr_srtN rfl hr.units) (by rfl) F.f_sorted bt_sorted (pa_cons (pv 2) pa_nil)) pa_nil)))))))), ?_⟩
  obtain ⟨v0, rfl, h0⟩ := args1 tv
  refine sq_drop (σ := [some v0, none, none, none, none, none, none, none, none, none]) (ev_call p True.intro (ea_cons (ev_var (i := 0) rfl h0) ea_nil)) k fun D0 H0 g0 => ?_
  refine (ev_call (B := fun p => tyBack p) (C := PgOk) (A := fun p : Pg => [tyProg K p]) (E := E0) p o (ea_cons (ev_var (i := 0) rfl ((tyProg K p).up g0.d.q h0)) ea_nil)).use g0.dh fun v1 D1 H1 g1 t1_1 => ?_
  have gA := g0.trans g1
  have nl1 := nl.up gA.d
  have a0 := (tyProg K p).up gA.d.q h0
  obtain ⟨d, kvs, rfl, hd, hv⟩ := tyD_at nl1.k t1_1
  have hdH := gA.dh.exact (u := .dK kvs) True.intro hd
  intro rl hrl
  refine ⟨by decide, fun wl hwl => ⟨_, _, _, rfl, ?_⟩⟩
  have hrw : wl ≠ rl := fun e => by
    rw [e, upd_same] at hwl
    cases hwl
  have hwl1 : H1 wl = none := by rw [upd_ne hrw] at hwl; exact hwl
  have drl : d ≠ rl := fun e => by rw [e, hrl] at hdH; cases hdH
  have dwl : d ≠ wl := fun e => by rw [e, hwl1] at hdH; cases hdH
  have gB : Grow D1 H1 D1 (upd H1 rl (NDict P w rl [])) := (Grow.refl gA.dh).mut hrl (gA.dh.dom hrl) nf_nd
  have gC : Grow D1 H1 D1 (upd (upd H1 rl (NDict P w rl [])) wl (.lst [])) := gB.mut hwl1 (gA.dh.dom hwl1) nf_lst
  have crl : Loc rl (NDict P w rl []) D1 (upd (upd H1 rl (NDict P w rl [])) wl (.lst [])) := ⟨gA.dh.dom hrl, by rw [upd_ne (fun e => hrw e.symm), upd_same]⟩
  have cwl : Loc wl (.lst []) D1 (upd (upd H1 rl (NDict P w rl [])) wl (.lst [])) := ⟨gA.dh.dom hwl1, upd_same⟩
  change tSeq _ _ _ _ (upd (upd H1 rl (NDict P w rl [])) wl (.lst []))
  generalize upd (upd H1 rl (NDict P w rl [])) wl (.lst []) = H2 at gC crl cwl ⊢
  have nrl : rl ≠ d := fun e => drl e.symm
  have nwl : wl ≠ d := fun e => dwl e.symm
  refine sq_lock (σ := [some v0, some (.ref d), some (.ref rl), some (.ref wl), none, none, none, none, none, none]) (D := D1) hd (x := .dK kvs) True.intro gC.dh fun od kq1 kp1 => ?_
  have lrl : Loc rl (NDict P w rl []) (upd D1 d (.frz od (.dK kvs))) (upd H2 d (.frz od (.dK kvs))) := ⟨by rw [upd_ne nrl]; exact crl.d, by rw [upd_ne nrl]; exact crl.h⟩
  have lwl : Loc wl (.lst []) (upd D1 d (.frz od (.dK kvs))) (upd H2 d (.frz od (.dK kvs))) := ⟨by rw [upd_ne nwl]; exact cwl.d, by rw [upd_ne nwl]; exact cwl.h⟩
  have hrl2 : upd H1 d (.frz od (.dK kvs)) rl = none := by rw [upd_ne nrl]; exact hrl
  have hwl2 : upd H1 d (.frz od (.dK kvs)) wl = none := by rw [upd_ne nwl]; exact hwl1
  refine st_for (D0 := upd D1 d (.frz od (.dK kvs))) (H0 := upd H1 d (.frz od (.dK kvs))) (xs := rch p) (D := upd D1 d (.frz od (.dK kvs))) tyI (JdS P w p v0 d rl wl) ?_ (by
    have := (evi_keys (pu_var (σ := [some v0, some (.ref d), some (.ref rl), some (.ref wl), none, none, none, none, none, none]) (i := 1) rfl) (upd_same (H := D1)) (KvsAt.up kq1 hv)).i
    rw [List.map_map] at this
    exact this) gC.both ?_ ?_ ?_
  · rintro i s D3 H3 D4 H4 ⟨L, acc, x4, x5, es, c1, c2, n1, t1, r⟩ g
    exact ⟨L, acc, x4, x5, es, c1.grow (x := NDict P w rl L) True.intro g, c2.grow (x := .lst acc) True.intro g, n1.up g.d.q, TysAt.up g.d.q t1, r⟩
  · intro D3 H3 g3
    exact ⟨[], [], none, none, rfl, lrl.grow (x := NDict P w rl []) True.intro g3, lwl.grow (x := .lst []) True.intro g3, .nil, .nil, by simp⟩
  · rintro B kb i st hi s1 D3 H3 y kD3 gH3 ⟨L, acc, x4, x5, rfl, c1, c2, n1, t1, hnd⟩ ty
    have ty : y = .int st := ty
    subst ty
    have hst := List.mem_of_getElem? hi
    have hil : i < (rch p).length := (List.getElem?_eq_some_iff.mp hi).1
    have hrl3 := rch_len p
    have hok := rch_ok o st hst
    have kk := kq1.trans (kb.trans kD3).q
    have sl : (seedsL p ((rch p).take i)).length ≤ 2 := by
      refine Nat.le_trans (List.length_filter_le _ _) ?_
      rw [List.length_take]
      omega
    show tIfS _ _ _ _ [some v0, some (.ref d), some (.ref rl), some (.ref wl), some (.int st), x5, none, none, none, none] H3
    have y0 : ∀ s5, Ev (tVar 0) [some v0, some (.ref d), some (.ref rl), some (.ref wl), some (.int st), s5, none, none, none, none] D3 (tyProg K p) := fun s5 => ev_var rfl ((tyProg K p).up kk a0)
    have y4 : ∀ s5 D5, Ev (tVar 4) [some v0, some (.ref d), some (.ref rl), some (.ref wl), some (.int st), s5, none, none, none, none] D5 (tyI st) := fun s5 D5 => ev_var rfl rfl
    have ye := fun s5 => ev_fld (f := "ends") (t := tyEnds p) (y0 s5) F.cls_Program F.no_Program_ends rfl
    refine st_ifB (v := decide (st ∈ ens p)) (eb_B ?_) gH3.dh (fun hb D4 H4 g4 => ?_) (fun hb D4 H4 g4 => ?_)
    · by_cases hen : st ∈ ens p
      · rw [decide_eq_true hen]
        exact ev_din (k := .inl st) (ye x5) (y4 x5 D3) (.inl ⟨rfl, _, tys_end hen⟩)
      · rw [decide_eq_false hen]
        exact ev_din (k := .inl st) (ye x5) (y4 x5 D3) (.inr ⟨rfl, hasNo_map (fun s : Int => (Sum.inl s : Key)) (fun s => tyRow (enr p s)) fun s hs e => hen (by rw [← Sum.inl.inj e]; exact hs)⟩)
    · have hen := of_decide_eq_true hb
      have rz : (regsOf (enr p st)).length ≤ 1000 := Nat.le_trans (Nat.le_trans (regsOf_len _) (o.en st hen).1) (by decide)
      refine sq_asg (t := tyNames (regsOf (enr p st))) (ev_call (enr p st) (Nat.le_trans (o.en st hen).1 (by decide)) (ea_cons (ev_dget (k := .inl st) ((ye x5).up g4.d) (y4 x5 D4) (tys_end hen)) ea_nil)) g4.dh fun v5 D5 H5 g5 t5 => ?_
      show tSeq _ _ _ [some v0, some (.ref d), some (.ref rl), some (.ref wl), some (.int st), some v5, none, none, none, none] H5
      have g45 := g4.trans g5
      have y5 : ∀ D6, Kp D5 D6 → Ev (tVar 5) [some v0, some (.ref d), some (.ref rl), some (.ref wl), some (.int st), some v5, none, none, none, none] D6 (tyNames (regsOf (enr p st))) := fun D6 k6 => ev_var rfl ((tyNames _).up k6.q t5)
      refine sq_ifB (v := !decide (regsOf (enr p st)).Nodup) (eb_B (ev_call (regsOf (enr p st)) rz (ea_cons (y5 D5 (Kp.refl _)) ea_nil))) g5.dh (fun hb2 D6 H6 g6 => ?_) (fun hb2 D6 H6 g6 => ?_)
      · have hn2 : ¬ (regsOf (enr p st)).Nodup := by simpa using hb2
        refine ev_makeX (R := fun x => TwOk p x ∧ TwWhy p) (eaA_cons (Ev.at_ (ev_call (p, st) ⟨o, hst⟩ (ea_cons ((y0 (some v5)).up (g45.d.trans g6.d)) (ea_cons (y4 (some v5) D6) ea_nil))) g6.dh) fun D7 H7 g7 => eaA_cons (Ev.at_ (ev_c (v := .str (txt []))) g7.dh) fun D8 H8 g8 => eaA_cons (Ev.at_ (ev_call (regsOf (enr p st)) ⟨rz, hn2⟩ (ea_cons (y5 D8 (g6.d.trans (g7.d.trans g8.d))) ea_nil)) g8.dh) fun D9 H9 g9 => eaA_nil g9.dh) (fun vs D9 tvs => ?_) fun x v D9 H9 hx g9 tx => ?_
        · obtain ⟨u1, u2, u3, rfl, r1, r2, r3⟩ := args3 tvs
          obtain ⟨cs, rfl, e1, e2, e3⟩ := r1
          obtain ⟨nm, rfl, e4, e5⟩ := r3
          exact ⟨(cs, [], nm), True.intro, ⟨twOk_end o e1 e2 e3 hen e4, .inl ⟨st, hst, hen, hn2⟩⟩, .cons rfl (.cons r2 (.cons rfl .nil))⟩
        · obtain ⟨z1, z2, z3, z4⟩ := unlock (x := .dK kvs) True.intro hd hdH ((gH3.trans g45).trans (g6.trans g9))
          exact ⟨z1, q v _ _ (gA.trans z3) (.inr ⟨x, hx.1, hx.2, (tyTwi K x).up z4 tx⟩)⟩
      · have hn2 : (regsOf (enr p st)).Nodup := by simpa using hb2
        have g46 := g45.trans g6
        have gH6 := gH3.trans g46
        have c6 := c2.grow (x := .lst acc) True.intro g46
        have b6 := c1.grow (x := NDict P w rl L) True.intro g46
        refine sq_append (σ := [some v0, some (.ref d), some (.ref rl), some (.ref wl), some (.int st), some v5, none, none, none, none]) (t := tyPr (seedP p st)) (i := 3) rfl c6 (ev_tup (ts := [tyI st, tyT ((sortS (regsOf (enr p st))).map tyS)]) (ea_cons (y4 (some v5) D6) (ea_cons (ev_cb (ea_cons (ev_cb (ea_cons (y5 D6 g6.d) ea_nil) (rc_srtStrs rz)) ea_nil) rc_tupL) ea_nil))) gH6.dh (by
          rw [pr_len t1, List.length_map, List.length_map]
          omega) fun v7 D7 H7 g7 t7 c7 => ?_
        have b7 := (b6.grow (x := NDict P w rl L) True.intro g7)
        have nrw := nd_ne_lst b7 c7
        have gH7 := c7.set (y := .lst (acc ++ [v7])) (gH6.trans g7) hwl2 nf_lst
        have c8 := c7.put (y := .lst (acc ++ [v7]))
        have b8 := b7.off (y := .lst (acc ++ [v7])) nrw
        have t17 : TysAt (((seedsL p ((rch p).take i)).map (seedP p)).map tyPr ++ [tyPr (seedP p st)]) (acc ++ [v7]) D7 := pr_app (TysAt.up (g46.trans g7).d.q t1) (.cons t7 .nil)
        have n7 := n1.up (g46.trans g7).d.q
        have hno : seedP p st ∉ L.map (·.1) := by
          rw [n7.keys.1, List.map_map]
          intro hm
          obtain ⟨s2, hs2, e⟩ := List.mem_map.mp hm
          have e : s2 = st := congrArg Prod.fst e
          subst e
          exact nd_take (key := fun k => k) (by rw [List.map_id']; exact rch_nd p) hi s2 (List.mem_filter.mp hs2).1 rfl
        obtain ⟨vl, hvl, tvl⟩ := last_at (f := tyPr) (xs := ((seedsL p ((rch p).take i)).map (seedP p)) ++ [seedP p st]) (a := seedP p st) (by rw [List.map_append]; exact t17) (by simp)
        refine st_nput (t := tyS (txt [])) (p := seedP p st) (i := 2) rfl b8 n7.keys.2 (Ev.at_ ev_c gH7.dh) (fun D9 H9 g9 Q9 q9 => ?_) hno (by
          rw [pr_len n7, List.length_map]
          omega) fun v9 qa D9 H9 g9 t9 hqa b9 => ?_
        · have c9 := c8.grow (x := .lst _) True.intro g9
          exact ⟨.ref wl, rfl, 1, rfl, wl, _, -1, vl, rfl, rfl, SqL.of c9.h, hvl, q9 vl D9 H9 (Grow.refl g9.dh) ((tyPr _).up g9.d.q tvl)⟩
        · have t9 : v9 = .str (txt []) := t9
          subst t9
          have c9 := c8.grow (x := .lst _) True.intro g9
          have e3 : seedsL p ((rch p).take (i + 1)) = seedsL p ((rch p).take i) ++ [st] := by
            rw [take_one hi, seedsL_app, if_pos hen]
          refine ⟨D9, kD3.trans (g46.d.trans (g7.d.trans g9.d)), b9.set (gH7.trans g9) hrl2 nf_nd, _, _, _, _, rfl, b9.put, c9.off (fun e => nrw e.symm), ?_, ?_, ?_⟩
          · rw [e3, List.map_append]
            exact pr_app (n7.up g9.d.q) (.cons ⟨rfl, rfl, hqa⟩ .nil)
          · rw [e3, List.map_append, List.map_append]
            exact TysAt.up g9.d.q t17
          · intro s2 hs2 he2
            rw [take_one hi] at hs2
            rcases List.mem_append.mp hs2 with hs2 | hs2
            · exact hnd s2 hs2 he2
            · rw [List.mem_singleton.mp hs2]
              exact hn2
    · have hen : ¬ st ∈ ens p := of_decide_eq_false hb
      refine ⟨D4, kD3.trans g4.d, gH3.trans g4, L, acc, _, _, rfl, c1.grow (x := NDict P w rl L) True.intro g4, c2.grow (x := .lst acc) True.intro g4, ?_, ?_, ?_⟩
      · rw [take_one hi, seedsL_app, if_neg hen, List.append_nil]
        exact n1.up g4.d.q
      · rw [take_one hi, seedsL_app, if_neg hen, List.append_nil]
        exact TysAt.up g4.d.q t1
      · intro s2 hs2 he2
        rw [take_one hi] at hs2
        rcases List.mem_append.mp hs2 with hs2 | hs2
        · exact hnd s2 hs2 he2
        · rw [List.mem_singleton.mp hs2] at he2
          exact absurd he2 hen
  · rintro s1 D3 H3 kD3 gH3 ⟨L, acc, x4, x5, rfl, c1, c2, n1, t1, hnd⟩
    rw [List.take_length] at n1 t1 hnd
    obtain ⟨z1, z2, z3, z4⟩ := unlock (x := .dK kvs) True.intro hd hdH gH3
    refine ⟨z1, ?_⟩
    dsimp only
    have gE := gA.trans z3
    have b0 := (tyProg K p).up z3.d.q a0
    have b1 := (tyBack p).up z3.d.q t1_1
    have m1 : Loc rl (NDict P w rl L) (upd D3 d (.dK kvs)) (upd H3 d (.dK kvs)) := ⟨by rw [upd_ne nrl]; exact c1.d, by rw [upd_ne nrl]; exact c1.h⟩
    have m2 : Loc wl (.lst acc) (upd D3 d (.dK kvs)) (upd H3 d (.dK kvs)) := ⟨by rw [upd_ne nwl]; exact c2.d, by rw [upd_ne nwl]; exact c2.h⟩
    have n2 := n1.up z4
    have t2 := TysAt.up z4 t1
    have hrl0 : H rl = none := gA.h.dom hrl
    have hwl0 : H wl = none := gA.h.dom hwl1
    generalize upd D3 d (.dK kvs) = D4 at gE b0 b1 m1 m2 n2 t2
    generalize upd H3 d (.dK kvs) = H4 at gE m1 m2 ⊢
    have sl : (seedsL p (rch p)).length ≤ 2 := Nat.le_trans (List.length_filter_le _ _) (rch_len p)
    refine st_while (D0 := D) (H0 := H) (D := D4) (JdW P w p v0 d rl wl) gE 24 ⟨L, acc, _, _, x4, x5, none, none, none, none, rfl, m1, m2, n2, t2, .start hnd, by rw [List.length_map, List.length_map]; omega⟩ ?_
    rintro m s1 D5 H5 kd gh ⟨L5, acc5, es, ws, y4, y5, y6, y7, y8, y9, rfl, c15, c25, n15, t15, inv, hm⟩
    have el := es_len o inv.nd inv.lv
    have lvOf : ∀ z ∈ es.map (·.1), ∃ rs, (z, rs) ∈ es ∧ Lv p rs z := fun z hz => by
      obtain ⟨e, he, rfl⟩ := List.mem_map.mp hz
      exact ⟨e.2, he, inv.lv e he⟩
    refine ne_nil (K := K) (f := tyPr) (g := dPr) (xs := ws) (i := 3) (fun a => dp_pr a) rfl c25 gh.dh t15 (shaped_prs o fun z hz => by
      obtain ⟨rs, _, hl⟩ := lvOf z (inv.sub z hz)
      exact (hl.rg o).2) fun D6 H6 g6 => ?_
    have c16 := c15.grow (x := NDict P w rl L5) True.intro g6
    have c26 := c25.grow (x := .lst acc5) True.intro g6
    have n16 := n15.up g6.d.q
    have t16 := TysAt.up g6.d.q t15
    have gh6 := gh.trans g6
    cases ws with
    | nil =>
      refine whq_f rfl ?_
      refine ev_makeX (R := fun ls => ls = srtPr (es.map (·.1))) (eaA_cons (srtN_loc (i := 2) rfl c16 n16 gh6.dh (by omega)) fun D7 H7 g7 => eaA_nil g7.dh) (fun vs D9 tvs => ?_) fun ls v D7 H7 e g7 tx => ?_
      · obtain ⟨u1, rfl, r1⟩ := args1 tvs
        refine ⟨_, ?_, rfl, .cons (.inl r1) .nil⟩
        show (srtPr (es.map (·.1))).length ≤ 1000
        rw [List.length_mergeSort, List.length_map]
        omega
      · subst e
        exact q v D7 H7 (gh6.trans g7) (.inl ⟨es, inv, tx⟩)
    | cons here ws2 =>
      refine whq_t rfl ?_
      cases t16 with
      | @cons vv _ acc2 _ tvv t16 =>
      refine sq_pop0G (i := 3) rfl c26 ?_
      have nrw6 := nd_ne_lst c16 c26
      have gh7 := c26.set (y := .lst acc2) gh6 hwl0 nf_lst
      have c27 := c26.put (y := .lst acc2)
      have c17 := c16.off (y := .lst acc2) nrw6
      refine ga_2 gh7.dh tvv fun c4 c5 tc4 tc5 => ?_
      have tc4 : c4 = .int here.1 := tc4
      subst tc4
      obtain ⟨rsh, hesh, lvh⟩ := lvOf here (inv.sub here List.mem_cons_self)
      have hst := lvh.st
      have hrg := (lvh.rg o).2
      have h2l := regs_two o (lvh.rg o).1 hrg
      have bb0 := (tyProg K p).up (kd.trans g6.d).q b0
      have bb1 := (tyBack p).up (kd.trans g6.d).q b1
      show tSeq _ _ _ [some v0, some (.ref d), some (.ref rl), some (.ref wl), some (.int here.1), some c5, y6, y7, y8, y9] _
      refine st_for (D0 := D) (H0 := H) (xs := bk p here.1) (D := D6) tyBp (JdJ P w p v0 d rl wl here m) ?_ (evi_list (ev_dget (k := .inl here.1) (ev_var (t := tyBack p) (i := 1) rfl bb1) (ev_var (t := tyI here.1) (i := 4) rfl rfl) (has_map (fun k : Int => (Sum.inl k : Key)) (fun k => tyL ((bk p k).map tyBp)) (fun a b e => Sum.inl.inj e) hst))).i gh7 ?_ ?_ ?_
      · rintro i s D3 H3 D4 H4 ⟨L, acc, es, ws, u5, u6, u7, u8, u9, e, tc, c1, c2, n1, t1, r⟩ g
        exact ⟨L, acc, es, ws, u5, u6, u7, u8, u9, e, Ty.up _ g.d.q tc, c1.grow (x := NDict P w rl L) True.intro g, c2.grow (x := .lst acc) True.intro g, n1.up g.d.q, TysAt.up g.d.q t1, r⟩
      · intro D7 H7 g7
        refine ⟨L5, acc2, es, ws2, c5, y6, y7, y8, y9, rfl, Ty.up _ g7.d.q tc5, c17.grow (x := NDict P w rl L5) True.intro g7, c27.grow (x := .lst acc2) True.intro g7, n16.up g7.d.q, TysAt.up g7.d.q t16, inv.pop, ?_⟩
        rw [List.length_cons] at hm
        omega
      · rintro B kb i y hi s2 D7 H7 yv kD7 gH7 ⟨L7, acc7, es7, ws7, c57, z6, z7, z8, z9, rfl, tc57, c18, c28, n18, t18, inv7, hm7⟩ tyv
        have hym := List.mem_of_getElem? hi
        have hdue := bk_due o hym
        have el7 := es_len o inv7.nd inv7.lv
        refine ga_2 gH7.dh tyv fun e1 e2 te1 te2 => ?_
        have te1 : e1 = .int y.1 := te1
        subst te1
        have te2 : e2 = .str (sign y.2) := te2
        subst te2
        have k7 := (kb.trans kD7).q
        have hrs : ∃ rs, (here, rs) ∈ es7 ∧ Lv p rs here := by
          obtain ⟨e, he, e3⟩ := List.mem_map.mp inv7.hm
          subst e3
          exact ⟨e.2, he, inv7.lv e he⟩
        obtain ⟨rs, hers, lvr⟩ := hrs
        have rsl : rs.length ≤ 8 := by
          obtain ⟨j, hj⟩ := List.mem_iff_getElem?.mp hers
          have h1 := inv7.len j _ hj
          have h2 := (List.getElem?_eq_some_iff.mp hj).1
          have h1 : rs.length ≤ j := h1
          omega
        have ul : (usesOf (p.row y.1 y.2) here.2).length ≤ 1000 := by
          have := uses_len (g := p.row y.1 y.2) (live := here.2) (z := 5) fun r hr => (o.row y hdue r (hrg r hr)).1
          omega
        refine sq_asg (σ := [some v0, some (.ref d), some (.ref rl), some (.ref wl), some (.int here.1), some c57, some (.int y.1), some (.str (sign y.2)), z8, z9]) (t := tyNames (usesOf (p.row y.1 y.2) here.2)) (ev_call (p.regs, p.row y.1 y.2, here.2) ⟨hrg, fun r hr => Nat.le_trans (o.row y hdue r hr).1 (by decide), ul⟩ (ea_cons (ev_op (ev_dgetT (k := dkey y) (ev_fld (ev_var (t := tyProg K p) (i := 0) rfl ((tyProg K p).up k7 bb0)) F.cls_Program F.no_Program_steps rfl) (key_tup (x := y) (ev_var (i := 6) rfl rfl) (ev_var (i := 7) rfl rfl)) (tys_step hdue)) ev_c (rv_ixT rfl)) (ea_cons (ev_var (t := tySeq (here.2.map tyS)) (i := 5) rfl (.inr tc57)) ea_nil))) gH7.dh fun v8 D8 H8 g8 t8 => ?_
        show tSeq _ _ _ [some v0, some (.ref d), some (.ref rl), some (.ref wl), some (.int here.1), some c57, some (.int y.1), some (.str (sign y.2)), some v8, z9] H8
        have x8 : ∀ D9 s9, Kp D8 D9 → Ev (tVar 8) [some v0, some (.ref d), some (.ref rl), some (.ref wl), some (.int here.1), some c57, some (.int y.1), some (.str (sign y.2)), some v8, s9] D9 (tyNames (usesOf (p.row y.1 y.2) here.2)) := fun D9 s9 k9 => ev_var rfl ((tyNames _).up k9.q t8)
        have xk : ∀ D9 s9, Kp D7 D9 → Ev (tTup (tCons (tVar 4) (tCons (tVar 5) tNil))) [some v0, some (.ref d), some (.ref rl), some (.ref wl), some (.int here.1), some c57, some (.int y.1), some (.str (sign y.2)), some v8, s9] D9 (tyPr here) := fun D9 s9 k9 => ev_tup (ts := [tyI here.1, tyT (here.2.map tyS)]) (ea_cons (ev_var rfl rfl) (ea_cons (ev_var rfl (Ty.up _ k9.q tc57)) ea_nil))
        have xr : ∀ D9 H9 s9, Grow D7 H7 D9 H9 → EvAt (tOp _ (tVar 7) (tNGet P w (tVar 2) (tTup (tCons (tVar 4) (tCons (tVar 5) tNil))))) [some v0, some (.ref d), some (.ref rl), some (.ref wl), some (.int here.1), some c57, some (.int y.1), some (.str (sign y.2)), some v8, s9] D9 H9 (tyS (txt (y.2 :: rs))) := fun D9 H9 s9 g9 => ev_opA (t := tyS (sign y.2)) (u := tyS (txt rs)) (Ev.at_ (ev_var rfl rfl) g9.dh) (fun D10 H10 g10 => nget_loc (i := 2) rfl (c18.grow (x := NDict P w rl L7) True.intro (g9.trans g10)) ((n18.up (g9.trans g10).d.q).keys.2) (xk D10 s9 (g9.trans g10).d) g10.dh (n18.val inv7.nd hers)) (rv_to (congrArg tyS (txt_cat [y.2] rs)) (rv_catS (by
          rw [txt_len]
          show 1 + rs.length ≤ 100000
          omega)))
        refine sq_ifB (v := !decide (usesOf (p.row y.1 y.2) here.2).Nodup) (eb_B (ev_call (usesOf (p.row y.1 y.2) here.2) ul (ea_cons (x8 D8 z9 (Kp.refl _)) ea_nil))) g8.dh (fun hb2 D9 H9 g9 => ?_) (fun hb2 D9 H9 g9 => ?_)
        · have hn2 : ¬ (usesOf (p.row y.1 y.2) here.2).Nodup := by simpa using hb2
          refine ev_makeX (R := fun x => TwOk p x ∧ TwWhy p) (eaA_cons (Ev.at_ (ev_call (p, y.1) ⟨o, (bk_mem.mp hym).1.1⟩ (ea_cons (ev_var (t := tyProg K p) (i := 0) rfl ((tyProg K p).up (k7.trans (g8.trans g9).d.q) bb0)) (ea_cons (ev_var (t := tyI y.1) (i := 6) rfl rfl) ea_nil))) g9.dh) fun D10 H10 g10 => eaA_cons (xr D10 H10 z9 ((g8.trans g9).trans g10)) fun D11 H11 g11 => eaA_cons (Ev.at_ (ev_call (usesOf (p.row y.1 y.2) here.2) ⟨ul, hn2⟩ (ea_cons (x8 D11 z9 (g9.d.trans (g10.d.trans g11.d))) ea_nil)) g11.dh) fun D12 H12 g12 => eaA_nil g12.dh) (fun vs D12 tvs => ?_) fun x v D12 H12 hx g12 tx => ?_
          · obtain ⟨u1, u2, u3, rfl, r1, r2, r3⟩ := args3 tvs
            obtain ⟨cs, rfl, f1, f2, f3⟩ := r1
            obtain ⟨nm, rfl, f4, f5⟩ := r3
            exact ⟨(cs, y.2 :: rs, nm), True.intro, ⟨twOk_step o lvr hym f1 f2 f3 (by omega) f4, .inr ⟨rs, here, y, lvr, rsl, hym, hn2⟩⟩, .cons rfl (.cons r2 (.cons rfl .nil))⟩
          · exact q v D12 H12 (gH7.trans ((g8.trans g9).trans g12)) (.inr ⟨x, hx.1, hx.2, tx⟩)
        · have hn2 : (usesOf (p.row y.1 y.2) here.2).Nodup := by simpa using hb2
          refine sq_asg (t := tyPr (childP p y here.2)) (ev_tup (ts := [tyI y.1, tyT ((sortS (usesOf (p.row y.1 y.2) here.2)).map tyS)]) (ea_cons (ev_var (i := 6) rfl rfl) (ea_cons (ev_cb (ea_cons (ev_cb (ea_cons (x8 D9 z9 g9.d) ea_nil) (rc_srtStrs ul)) ea_nil) rc_tupL) ea_nil))) g9.dh fun v9 D10 H10 g10 t10 => ?_
          show tIfS _ _ _ _ [some v0, some (.ref d), some (.ref rl), some (.ref wl), some (.int here.1), some c57, some (.int y.1), some (.str (sign y.2)), some v8, some v9] H10
          have g810 := (g8.trans g9).trans g10
          refine nnotin_loc (p := childP p y here.2) (i := 2) rfl (c18.grow (x := NDict P w rl L7) True.intro g810) ((n18.up g810.d.q).keys.2) (ev_var (i := 9) rfl t10) g10.dh fun D11 H11 g11 => ?_
          have gg := g810.trans g11
          have c1b := c18.grow (x := NDict P w rl L7) True.intro gg
          have c2b := c28.grow (x := .lst acc7) True.intro gg
          have nb := n18.up gg.d.q
          have tb := TysAt.up gg.d.q t18
          have gHb := gH7.trans gg
          have nrwb := nd_ne_lst c1b c2b
          rw [nb.keys.1]
          by_cases hmem : childP p y here.2 ∈ es7.map (·.1)
          · rw [decide_eq_true hmem]
            refine iteF ⟨D11, kD7.trans gg.d, gHb, L7, acc7, es7, ws7, c57, _, _, _, _, rfl, Ty.up _ gg.d.q tc57, c1b, c2b, nb, tb, inv7.old hi ?_, hm7⟩
            unfold stpC
            rw [decide_eq_true hn2]
            exact decide_eq_true hmem
          · rw [decide_eq_false hmem]
            refine iteT ?_
            have inv8 := inv7.new hi hers hn2 hmem
            have el8 := es_len o inv8.nd inv8.lv
            rw [List.length_append] at el8
            simp only [List.length_cons, List.length_nil] at el8
            refine sq_nput (t := tyS (txt (y.2 :: rs))) (p := childP p y here.2) (i := 2) rfl c1b nb.keys.2 (xr D11 H11 (some v9) gg) (fun D12 H12 g12 => Ev.at_ (ev_var (i := 9) rfl ((tyPr _).up (g11.trans g12).d.q t10)) g12.dh) (by rw [nb.keys.1]; exact hmem) (by
              rw [pr_len nb]
              omega) fun v12 qa D12 H12 g12 t12 hqa c1c => ?_
            have t12 : v12 = .str (txt (y.2 :: rs)) := t12
            subst t12
            have c2c := c2b.grow (x := .lst acc7) True.intro g12
            have gHc := c1c.set (y := NDict P w rl (L7 ++ [(childP p y here.2, qa, .str (txt (y.2 :: rs)))])) (gHb.trans g12) hrl0 nf_nd
            have c1d := c1c.put (y := NDict P w rl (L7 ++ [(childP p y here.2, qa, .str (txt (y.2 :: rs)))]))
            have c2d := c2c.off (y := NDict P w rl (L7 ++ [(childP p y here.2, qa, .str (txt (y.2 :: rs)))])) (fun e => nrwb e.symm)
            refine st_append (t := tyPr (childP p y here.2)) (i := 3) rfl c2d (ev_var (i := 9) rfl ((tyPr _).up (g11.trans g12).d.q t10)) gHc.dh (by
              rw [pr_len t18, List.length_map]
              omega) fun v13 D13 H13 g13 t13 c2e => ?_
            have c1e := c1d.grow (x := NDict P w rl _) True.intro g13
            refine ⟨D13, kD7.trans ((gg.trans g12).d.trans g13.d), c2e.set (gHc.trans g13) hwl0 nf_lst, _, _, es7 ++ [(childP p y here.2, y.2 :: rs)], ws7 ++ [childP p y here.2], c57, _, _, _, _, rfl, Ty.up _ ((gg.trans g12).d.trans g13.d).q tc57, c1e.off nrwb, c2e.put, ?_, ?_, inv8, ?_⟩
            · exact pr_app ((nb.up g12.d.q).up g13.d.q) (.cons ⟨rfl, rfl, hqa.up g13.d.q⟩ .nil)
            · rw [List.map_append]
              exact pr_app (TysAt.up (g12.d.trans g13.d).q tb) (.cons t13 .nil)
            · rw [List.length_append, List.length_append]
              simp only [List.length_cons, List.length_nil]
              omega
      · rintro s2 D7 H7 kD7 gH7 ⟨L7, acc7, es7, ws7, c57, z6, z7, z8, z9, rfl, tc57, c18, c28, n18, t18, inv7, hm7⟩
        have el7 := es_len o inv7.nd inv7.lv
        refine ev_opA (z := tyB false) (nlen_loc (i := 2) rfl c18 n18.keys.2 gH7.dh) (fun D8 H8 g8 => Ev.at_ (ev_c (v := .int 4000)) g8.dh) (rv_gt (decide_eq_false (by
          rw [pr_len n18]
          omega))) _ fun v D8 H8 g8 hv8 => ⟨false, hv8, iteF ?_⟩
        exact ⟨m - 1, by omega, D8, (kd.trans g6.d).trans (kD7.trans g8.d), gH7.trans g8, L7, acc7, es7, ws7, _, _, _, _, _, _, rfl, c18.grow (x := NDict P w rl L7) True.intro g8, c28.grow (x := .lst acc7) True.intro g8, n18.up g8.d.q, TysAt.up g8.d.q t18, inv7.fin, by omega⟩
end
end K02
set_option Elab.async false
set_option linter.all false
set_option maxRecDepth 100000
set_option maxHeartbeats 8000000
namespace K02
open PySem PySem.Spec PyProof.Rows L2 PySem.W
section
variable {P : Program} {w : World} {K : PySem.W.Frag} {mg : Str → Option Value} {base : Heap}
variable {σ : Sl} {D D' H : Hp} {te ta tb tk tv td : TE} {t u z : Ty} {ts : List Ty}
theorem rc_int1 {i : Int} : RC (fun xs H Q => (∃ i, xs = [V.int i] ∧ Q (.int i) H) ∨ ∃ k, xs = [V.bl k] ∧ Q (.int (if k then 1 else 0)) H) [tyI i] (tyI i) := fun xs D H k h Q q => by
  obtain ⟨v, rfl, hv⟩ := args1 h
  have hv : v = .int i := hv
  subst hv
  exact .inl ⟨i, rfl, q _ D H (Grow.refl k) rfl⟩
theorem atI_pos {α : Type} {xs : List α} {i : Int} (h0 : 0 ≤ i) (h1 : i < xs.length) : atI xs i = xs[i.toNat]? := by
  unfold atI ixN
  rw [if_pos h0, if_pos (by omega)]
  rfl
theorem sq_ifBN {c : TT} {a u : TS} {E : Ends} {v : Bool} (e : EvB c σ D v) (k : Kp D H) (hT : v = true → ∀ D1 H1, Grow D H D1 H1 → a { E with nx := u E } σ H1) (hF : v = false → ∀ D1 H1, Grow D H D1 H1 → u E σ H1) : tSeq (tIfS c a tNext) u E σ H := st_ifB (E := { E with nx := u E }) e k hT hF
/-! ### numbers out of the script -/
def cellF (ns : List Int) (k : Int) : Int := if k < ns.length then ns.getD k.toNat 0 else 0
def primesL : List Int := [1000003, 1000033, 1000037, 1000039, 1000081, 1000099, 1000117, 1000121, 1000133, 1000151, 1000159, 1000171, 1000183, 1000187, 1000193, 1000199]
def drawF (cell k b : Int) : Int := (cell * 48271 + k * 69621) % (primesL.getD (k % 16).toNat 1) % b
def powF (k : Int) : Int := 1009 ^ (k % 24).toNat
def numF (cell k b : Int) : Int := if 0 < (cell - 10 ^ 18) / powF k then (cell - 10 ^ 18) / powF k % 1009 % b else drawF ((cell % 1000003 + 977 * k) * (cell % 1000003 + 31 * k + 5)) (k % 9 + 1) 999983 % b
theorem numF_in {cell k b : Int} (h : 0 < b) : 0 ≤ numF cell k b ∧ numF cell k b < b := by
  unfold numF
  split <;> exact ⟨Int.emod_nonneg _ (by omega), Int.emod_lt_of_pos _ h⟩
abbrev sp_cell_at : Sp := SpF (fun x : List Int × Int => [tyL (x.1.map tyI), tyI x.2]) (fun x => tyI (cellF x.1 x.2)) (fun x => 0 ≤ x.2)
theorem cal_cell_at (F : Fc K mg) : Cal P w K mg base 1 "_law_cell_at" sp_cell_at := mk__law_cell_at F (fun _ _ _ _ h => SpF.len (n := 2) (fun _ => rfl) h) fun f cdv A outer s H vs Q E hr h => by
  have nd := sc__law_cell_at.nd
  obtain ⟨⟨ns, i⟩, D, h0, k, tv, q⟩ := h
  dsimp only at h0 tv q
  refine ⟨_, (pss_cons (ps_if (pt_cmpR op_lt (pv 1) (pe_callB k_len_seq (by rfl) F.f_len bt_len (pa_cons (pv 0) pa_nil)) (nomark _)) (pss_one (ps_ret (pe_ix k_ix_list (pv 0) (pv 1) (fun _ _ => rfl)))) pss_nil)
    (pss_one (ps_ret pe_int))), ?_⟩
  obtain ⟨v0, v1, rfl, t0, t1⟩ := args2 tv
  have x0 : Ev (tVar 0) (start n__law_cell_at [v0, v1]) D (tyL (ns.map tyI)) := ev_var rfl t0
  have x1 : Ev (tVar 1) (start n__law_cell_at [v0, v1]) D (tyI i) := ev_var rfl t1
  refine sq_ifBN (v := decide (i < ns.length)) (eb_test (ev_op x1 (ev_cb (ea_cons x0 ea_nil) rc_lenL) (rv_lt (by rw [List.length_map])))) k (fun hb D1 H1 g1 => ?_) (fun hb D1 H1 g1 => ?_)
  · have hb := of_decide_eq_true hb
    have e : cellF ns i = ns[i.toNat]'(by omega) := by
      unfold cellF
      rw [if_pos hb, List.getD_eq_getElem?_getD, List.getElem?_eq_getElem (by omega)]
      rfl
    refine st_ret (t := tyI (cellF ns i)) (ev_op (x0.up g1.d) (x1.up g1.d) (rv_ixL ?_)) g1.dh fun v D2 H2 g2 t2 => q v D2 H2 (g1.trans g2) t2
    rw [atI_pos h0 (by rw [List.length_map]; exact hb), List.getElem?_map, List.getElem?_eq_getElem (by omega), e]
    rfl
  · have hb := of_decide_eq_false hb
    have e : cellF ns i = 0 := if_neg hb
    exact st_ret (t := tyI (cellF ns i)) (σ := start n__law_cell_at [v0, v1]) (by rw [e]; exact ev_c) g1.dh fun v D2 H2 g2 t2 => q v D2 H2 (g1.trans g2) t2
abbrev sp_draw : Sp := SpF (fun x : Int × Int × Int => [tyI x.1, tyI x.2.1, tyI x.2.2]) (fun x => tyI (drawF x.1 x.2.1 x.2.2)) (fun x => 0 < x.2.2)
theorem cal_draw (F : Fc K mg) : Cal P w K mg base 1 "_law_draw" sp_draw := mk__law_draw F (fun _ _ _ _ h => SpF.len (n := 3) (fun _ => rfl) h) fun f cdv A outer s H vs Q E hr h => by
  have nd := sc__law_draw.nd
  obtain ⟨⟨cell, i, b⟩, D, h0, k, tv, q⟩ := h
  dsimp only at h0 tv q
  refine ⟨_, (pss_cons (ps_set (i := 3) nd rfl (.inl rfl) (pe_tup (pa_cons pe_int (pa_cons pe_int (pa_cons pe_int (pa_cons pe_int (pa_cons pe_int (pa_cons pe_int (pa_cons pe_int (pa_cons pe_int (pa_cons pe_int (pa_cons pe_int (pa_cons pe_int (pa_cons pe_int (pa_cons pe_int (pa_cons pe_int (pa_cons pe_int (pa_cons pe_int pa_nil))))))))))))))))))
    (pss_one (ps_ret (pe_op op_mod (pe_op op_mod (pe_callTy call_int1 (by rfl) F.f_int bt_int (pa_cons (pe_op op_add (pe_op op_mul (pv 0) pe_int) (pe_op op_mul (pv 1) pe_int)) pa_nil)) (pe_ix k_ix_tup (pv 3) (pe_op op_mod (pe_callTy call_int1 (by rfl) F.f_int bt_int (pa_cons (pv 1) pa_nil)) pe_int) (fun _ _ => rfl))) (pv 2))))), ?_⟩
  obtain ⟨v0, v1, v2, rfl, t0, t1, t2⟩ := args3 tv
  refine sq_asg (t := tyT (primesL.map tyI)) (ev_tup (ts := primesL.map tyI) (ea_cons ev_c (ea_cons ev_c (ea_cons ev_c (ea_cons ev_c (ea_cons ev_c (ea_cons ev_c (ea_cons ev_c (ea_cons ev_c (ea_cons ev_c (ea_cons ev_c (ea_cons ev_c (ea_cons ev_c (ea_cons ev_c (ea_cons ev_c (ea_cons ev_c (ea_cons ev_c ea_nil)))))))))))))))) (by decide)) k fun v3 D1 H1 g1 t3 => ?_
  have hm0 : 0 ≤ i % 16 := Int.emod_nonneg _ (by decide)
  have hm1 : i % 16 < 16 := Int.emod_lt_of_pos _ (by decide)
  have hl : (i % 16).toNat < primesL.length := by show _ < 16; omega
  have hp : 0 < primesL.getD (i % 16).toNat 1 := by
    have : ∀ x ∈ primesL, (0 : Int) < x := by decide
    rw [List.getD_eq_getElem?_getD, List.getElem?_eq_getElem hl]
    exact this _ (List.getElem_mem hl)
  have x0 : Ev (tVar 0) [some v0, some v1, some v2, some v3] D1 (tyI cell) := ev_var rfl t0
  have x1 : Ev (tVar 1) [some v0, some v1, some v2, some v3] D1 (tyI i) := ev_var rfl t1
  have x2 : Ev (tVar 2) [some v0, some v1, some v2, some v3] D1 (tyI b) := ev_var rfl t2
  have x3 : Ev (tVar 3) [some v0, some v1, some v2, some v3] D1 (tyT (primesL.map tyI)) := ev_var rfl t3
  refine st_ret (t := tyI (drawF cell i b)) (ev_op (ev_op (ev_cb (ea_cons (ev_op (ev_op x0 ev_c (rv_I (.inr (by decide)))) (ev_op x1 ev_c (rv_I (.inr (by decide)))) rv_I0) ea_nil) rc_int1) (ev_op x3 (ev_op (ev_cb (ea_cons x1 ea_nil) rc_int1) (ev_c (v := .int 16)) (rv_I (by decide))) (rv_ixT (t := tyI (primesL.getD (i % 16).toNat 1)) ?_)) (rv_I hp)) x2 (rv_I h0)) g1.dh fun v D2 H2 g2 t2 => q v D2 H2 (g1.trans g2) t2
  rw [atI_pos hm0 (by rw [List.length_map]; show _ < ((16 : Nat) : Int); omega), List.getElem?_map, List.getD_eq_getElem?_getD, List.getElem?_eq_getElem hl]
  rfl
abbrev sp_number : Sp := SpF (fun x : Int × Int × Int => [tyI x.1, tyI x.2.1, tyI x.2.2]) (fun x => tyI (numF x.1 x.2.1 x.2.2)) (fun x => 0 < x.2.2 ∧ 0 ≤ x.2.1 ∧ x.2.1 ≤ 1000)
theorem cal_number (F : Fc K mg) : Cal P w K mg base 2 "_law_number" sp_number := mk__law_number F (fun _ _ _ _ h => SpF.len (n := 3) (fun _ => rfl) h) fun f cdv A outer s H vs Q E hr h => by
  have nd := sc__law_number.nd
  have c__law_draw := cal_draw (P := P) (w := w) (base := base) F
  obtain ⟨⟨cell, i, b⟩, D, ⟨h0, hi0, hi1⟩, k, tv, q⟩ := h
  dsimp only at h0 hi0 hi1 tv q
  refine ⟨_, (pss_cons (ps_set (i := 3) nd rfl (.inl rfl) pe_int)
    (pss_cons (ps_for PassesOwn.never rfl (pi_range1 (by rfl) F.f_range (pa_cons (pe_op op_mod (pe_callTy call_int1 (by rfl) F.f_int bt_int (pa_cons (pv 1) pa_nil)) pe_int) pa_nil)) (pg_name (i := 4) nd rfl (.inl rfl)) (pss_one (ps_set (i := 3) nd rfl (.inl rfl) (pe_op op_mul (pv 3) pe_int))))
    (pss_cons (ps_set (i := 5) nd rfl (.inl rfl) (pe_op op_fdivW (pe_op op_sub (pv 0) (pe_op op_pow pe_int pe_int)) (pv 3)))
    (pss_cons (ps_if (pt_cmpR op_gt (pv 5) pe_int (nomark _)) (pss_one (ps_ret (pe_op op_mod (pe_op op_mod (pe_callTy call_int1 (by rfl) F.f_int bt_int (pa_cons (pv 5) pa_nil)) pe_int) (pv 2)))) pss_nil)
    (pss_cons (ps_set (i := 6) nd rfl (.inl rfl) (pe_op op_mod (pe_callTy call_int1 (by rfl) F.f_int bt_int (pa_cons (pv 0) pa_nil)) pe_int))
    (pss_one (ps_ret (pe_op op_mod (pe_cal c__law_draw hr (by decide) (by rfl) (pa_cons (pe_op op_mul (pe_op op_add (pv 6) (pe_op op_mul pe_int (pv 1))) (pe_op op_add (pe_op op_add (pv 6) (pe_op op_mul pe_int (pv 1))) pe_int)) (pa_cons (pe_op op_add (pe_op op_mod (pe_callTy call_int1 (by rfl) F.f_int bt_int (pa_cons (pv 1) pa_nil)) pe_int) pe_int) (pa_cons pe_int pa_nil)))) (pv 2))))))))), ?_⟩
  obtain ⟨v0, v1, v2, rfl, t0, t1, t2⟩ := args3 tv
  have hm0 : 0 ≤ i % 24 := Int.emod_nonneg _ (by decide)
  have hm1 : i % 24 < 24 := Int.emod_lt_of_pos _ (by decide)
  refine sq_asg (t := tyI 1) (ev_c (v := .int 1)) k fun v3 D1 H1 g1 t3 => ?_
  have x1 : Ev (tVar 1) [some v0, some v1, some v2, some v3, none, none, none] D1 (tyI i) := ev_var rfl t1
  refine st_for (D0 := D) (H0 := H) (xs := List.range (i % 24).toNat) (D := D1) (fun j => tyI (j : Nat)) (fun j s D H => ∃ x4, s = [some v0, some v1, some v2, some (.int (1009 ^ j)), x4, none, none]) (fun z _ => z) (evi_range1 (ea_cons (ev_is (t := tyI (i % 24)) (by rw [Int.toNat_of_nonneg hm0]) (ev_op (ev_cb (ea_cons x1 ea_nil) rc_int1) (ev_c (v := .int 24)) (rv_I (by decide)))) ea_nil) (by omega)).i g1 (fun _ _ _ => ⟨none, by
    have t3 : v3 = .int 1 := t3
    subst t3
    rfl⟩) ?_ ?_
  · rintro B kb j a ha s1 D2 H2 x kD2 gH2 ⟨x4, rfl⟩ tx
    refine st_asg (σ := [some v0, some v1, some v2, some (.int (1009 ^ j)), some x, none, none]) (t := tyI (1009 ^ j * 1009)) (ev_op (ev_var (t := tyI (1009 ^ j)) (i := 3) rfl rfl) (ev_c (v := .int 1009)) (rv_I (.inr (by decide)))) gH2.dh fun v D3 H3 g3 t3 => ?_
    have t3 : v = .int (1009 ^ j * 1009) := t3
    subst t3
    exact ⟨D3, kD2.trans g3.d, gH2.trans g3, some x, by rw [Int.pow_succ]; rfl⟩
  · rintro s1 D2 H2 kD2 gH2 ⟨x4, rfl⟩
    rw [List.length_range]
    show tSeq _ _ _ [some v0, some v1, some v2, some (.int (powF i)), x4, none, none] H2
    have hpp : 0 < powF i := Int.pow_pos (by decide)
    have hpb : (powF i).natAbs < 2 ^ 240 := by
      unfold powF
      rw [Int.natAbs_pow]
      refine Nat.lt_of_le_of_lt (Nat.pow_le_pow_right (by decide) (show (i % 24).toNat ≤ 23 by omega)) ?_
      decide +kernel
    have y0 : Ev (tVar 0) [some v0, some v1, some v2, some (.int (powF i)), x4, none, none] D2 (tyI cell) := ev_var rfl t0
    refine sq_asg (t := tyI ((cell - 10 ^ 18) / powF i)) (ev_op (ev_op y0 (ev_op (ev_c (v := .int 10)) (ev_c (v := .int 18)) (rv_I (by unfold CPow; decide))) rv_I0) (ev_var (t := tyI (powF i)) (i := 3) rfl rfl) (rv_I (wide_div hpp hpb (by decide) (by decide)))) gH2.dh fun v5 D3 H3 g3 t5 => ?_
    have gA := gH2.trans g3
    have x5 : Ev (tVar 5) [some v0, some v1, some v2, some (.int (powF i)), x4, some v5, none] D3 (tyI ((cell - 10 ^ 18) / powF i)) := ev_var rfl t5
    refine sq_ifBN (σ := [some v0, some v1, some v2, some (.int (powF i)), x4, some v5, none]) (v := decide (0 < (cell - 10 ^ 18) / powF i)) (eb_test (ev_op x5 (ev_c (v := .int 0)) (rv_gt rfl))) g3.dh (fun hb D4 H4 g4 => ?_) (fun hb D4 H4 g4 => ?_)
    · have e : numF cell i b = (cell - 10 ^ 18) / powF i % 1009 % b := if_pos (of_decide_eq_true hb)
      refine st_ret (t := tyI (numF cell i b)) (by
        rw [e]
        exact ev_op (ev_op (ev_cb (ea_cons (x5.up g4.d) ea_nil) rc_int1) (ev_c (v := .int 1009)) (rv_I (by decide))) (show Ev (tVar 2) _ D4 (tyI b) from ev_var rfl t2) (rv_I h0)) g4.dh fun v D5 H5 g5 t5 => q v D5 H5 (gA.trans (g4.trans g5)) t5
    · have e : numF cell i b = drawF ((cell % 1000003 + 977 * i) * (cell % 1000003 + 31 * i + 5)) (i % 9 + 1) 999983 % b := if_neg (of_decide_eq_false hb)
      refine sq_asg (t := tyI (cell % 1000003)) (ev_op (ev_cb (ea_cons (show Ev (tVar 0) [some v0, some v1, some v2, some (.int (powF i)), x4, some v5, none] D4 (tyI cell) from ev_var rfl t0) ea_nil) rc_int1) (ev_c (v := .int 1000003)) (rv_I (by decide))) g4.dh fun v6 D5 H5 g5 t6 => ?_
      have gB := gA.trans (g4.trans g5)
      have y6 : Ev (tVar 6) [some v0, some v1, some v2, some (.int (powF i)), x4, some v5, some v6] D5 (tyI (cell % 1000003)) := ev_var rfl t6
      have y1 : Ev (tVar 1) [some v0, some v1, some v2, some (.int (powF i)), x4, some v5, some v6] D5 (tyI i) := ev_var rfl t1
      have c0 : 0 ≤ cell % 1000003 := Int.emod_nonneg _ (by decide)
      have c1 : cell % 1000003 < 1000003 := Int.emod_lt_of_pos _ (by decide)
      have b1 : -(2 ^ 64) < cell % 1000003 + 977 * i ∧ cell % 1000003 + 977 * i < 2 ^ 64 := ⟨by omega, by omega⟩
      refine st_ret (t := tyI (numF cell i b)) (by
        rw [e]
        exact ev_op (ev_call ((cell % 1000003 + 977 * i) * (cell % 1000003 + 31 * i + 5), i % 9 + 1, 999983) (show (0 : Int) < 999983 by decide) (ea_cons (ev_op (ev_op y6 (ev_op (ev_c (v := .int 977)) y1 (rv_I (.inl (by decide)))) rv_I0) (ev_op (ev_op y6 (ev_op (ev_c (v := .int 31)) y1 (rv_I (.inl (by decide)))) rv_I0) (ev_c (v := .int 5)) rv_I0) (rv_I (.inl b1))) (ea_cons (ev_op (ev_op (ev_cb (ea_cons y1 ea_nil) rc_int1) (ev_c (v := .int 9)) (rv_I (by decide))) (ev_c (v := .int 1)) rv_I0) (ea_cons ev_c ea_nil)))) (show Ev (tVar 2) _ D5 (tyI b) from ev_var rfl t2) (rv_I h0)) g5.dh fun v D6 H6 g6 t6 => q v D6 H6 (gB.trans g6) t6
end
end K02
set_option Elab.async false
set_option linter.all false
set_option maxRecDepth 100000
set_option maxHeartbeats 8000000
namespace K02
open PySem PySem.Spec PyProof.Rows L2 PySem.W
section
variable {P : Program} {w : World} {K : PySem.W.Frag} {mg : Str → Option Value} {base : Heap}
variable {σ : Sl} {D D' H H' D0 H0 : Hp} {te ta tb tk tv td : TE} {tt : TT} {t u z : Ty} {ts : List Ty}
/-! ### the list that is drawn from: [script, 0, how often] -/
structure Dw where
  s : Addr
  dl : Addr
  ns : List Int
def Dr (d : Dw) (D H : Hp) : Prop := D d.s = some (.lst (d.ns.map V.int)) ∧ ∃ c : Int, 0 ≤ c ∧ Loc d.dl (.lst [.ref d.s, .int 0, .int c]) D H
theorem Dr.grow {d : Dw} (r : Dr d D H) (g : Grow D H D' H') : Dr d D' H' := by
  obtain ⟨h1, c, hc, l⟩ := r
  exact ⟨g.d.q.fx (u := .lst _) True.intro h1, c, hc, l.grow (x := .lst _) True.intro g⟩
/-- another is changed -/
theorem Dr.off {d : Dw} {m : Addr} {y : HO} (r : Dr d D H) (n : d.dl ≠ m) : Dr d D (upd H m y) := by
  obtain ⟨h1, c, hc, l⟩ := r
  exact ⟨h1, c, hc, l.off n⟩
/-- a promise that draws -/
def SpX {α : Type} (A : α → List Ty) (B : α → Ty) (C : α → Prop) : Sp := fun vs H Q _ => ∃ (x : α) (d : Dw) (D D0 H0 : Hp) (ws : List V), vs = .ref d.dl :: ws ∧ C x ∧ Grow D0 H0 D H ∧ H0 d.dl = none ∧ Dr d D H ∧ TysAt (A x) ws D ∧
  ∀ v D' H', Kp D D' → Grow D0 H0 D' H' → Dr d D' H' → (∀ a y, a ≠ d.dl → Fre y → Loc a y D H → Loc a y D' H') → (B x).p v D' → Q v H'
theorem SpX.len {α : Type} {A : α → List Ty} {B : α → Ty} {C : α → Prop} {n : Nat} (hn : ∀ x, (A x).length = n) {vs : List V} {H : Hp} {Q : VK} {E : XK} (h : SpX A B C vs H Q E) : vs.length = n + 1 := by
  obtain ⟨x, d, D, D0, H0, ws, rfl, _, _, _, _, h, _⟩ := h
  rw [List.length_cons, pr_len h, hn]
/-- what an evaluation that draws comes to -/
def EvX (d : Dw) (D0 H0 : Hp) (te : TE) (σ : Sl) (D H : Hp) (t : Ty) : Prop := ∀ Q : VK, (∀ v D' H', Kp D D' → Grow D0 H0 D' H' → Dr d D' H' → (∀ a y, a ≠ d.dl → Fre y → Loc a y D H → Loc a y D' H') → t.p v D' → Q v H') → te σ H Q
theorem EvAt.x {d : Dw} (e : EvAt te σ D H t) (g : Grow D0 H0 D H) (r : Dr d D H) : EvX d D0 H0 te σ D H t := fun Q q => e Q fun v D' H' g1 tv => q v D' H' g1.d (g.trans g1) (r.grow g1) (fun a y _ f l => l.grow f g1) tv
theorem ev_callX {α : Type} {A : α → List Ty} {B : α → Ty} {C : α → Prop} {E : XK} {tl : TA} {d : Dw} {i : Nat} (x : α) (c : C x) (hl : σ[i]? = some (some (.ref d.dl))) (e : EvA tl σ D (A x)) (g : Grow D0 H0 D H) (h0 : H0 d.dl = none) (r : Dr d D H) : EvX d D0 H0 (tCall (SpX A B C) [] E (tCons (tVar i) tl)) σ D H (B x) := fun Q q =>
  ⟨.ref d.dl, hl, e D H (Kp.refl _) g.dh _ fun vs D2 H2 g2 tv => by
    show SpX A B C ((V.ref d.dl :: vs) ++ []) H2 Q E
    rw [List.append_nil]
    exact ⟨x, d, D2, D0, H0, vs, rfl, c, g.trans g2, h0, r.grow g2, tv, fun v D3 H3 k3 g3 r3 l3 tb => q v D3 H3 (g2.d.trans k3) g3 r3 (fun a y n f l => l3 a y n f (l.grow f g2)) tb⟩⟩
theorem EvX.bind {d : Dw} {Q : VK} (e : EvX d D0 H0 te σ D H t) (q : ∀ v D' H', Kp D D' → Grow D0 H0 D' H' → Dr d D' H' → (∀ a y, a ≠ d.dl → Fre y → Loc a y D H → Loc a y D' H') → t.p v D' → Q v H') : te σ H Q := e Q q
/-- reading a list that changes -/
theorem ixl_loc {i : Nat} {l : Addr} {acc : List V} {j : Int} {v : V} (hl : σ[i]? = some (some (.ref l))) (c : Loc l (.lst acc) D H) (k : Kp D H) (e : atI acc j = some v) : EvAt (tOp (rIxL K) (tVar i) (tC (.int j))) σ D H (tyV v) := fun Q q =>
  ⟨.ref l, hl, l, acc, j, v, rfl, rfl, SqL.of c.h, e, q v D H (Grow.refl k) rfl⟩
theorem ev_callA {α : Type} {A : α → List Ty} {B : α → Ty} {C : α → Prop} {E : XK} {tl : TA} (x : α) (c : C x) (e : ∀ Q1 : List V → Hp → Prop, (∀ vs D1 H1, Grow D H D1 H1 → TysAt (A x) vs D1 → Q1 vs H1) → tl σ H Q1) : EvAt (tCall (SpF A B C) [] E tl) σ D H (B x) := fun Q q => e _ fun vs D2 H2 g2 tv => by
  show SpF A B C (vs ++ []) H2 Q E
  rw [List.append_nil]
  exact ⟨x, D2, c, g2.dh, tv, fun v D3 H3 g3 tb => q v D3 H3 (g2.trans g3) tb⟩
theorem ev_cbA {rc : List V → Hp → VK → Prop} {tl : TA} (e : ∀ Q1 : List V → Hp → Prop, (∀ vs D1 H1, Grow D H D1 H1 → TysAt ts vs D1 → Q1 vs H1) → tl σ H Q1) (hr : RC rc ts z) : EvAt (tCB rc tl) σ D H z := fun Q q => e _ fun xs D2 H2 g2 tx => hr xs D2 H2 g2.dh tx Q fun v D3 H3 g3 tz => q v D3 H3 (g2.trans g3) tz
def tyRg (b : Int) : Ty := ⟨fun v _ => ∃ i : Int, v = .int i ∧ 0 ≤ i ∧ i < b, fun _ h => h⟩
abbrev sp_next : Sp := SpX (fun b : Int => [tyI b]) tyRg (fun b => 0 < b)
theorem lst3_2 {a b c : V} : atI [a, b, c] 2 = some c := rfl
theorem cal_next (F : Fc K mg) : Cal P w K mg base 3 "_law_next" sp_next := mk__law_next F (fun _ _ _ _ h => SpX.len (n := 1) (fun _ => rfl) h) fun f cdv A outer s H vs Q E hr h => by
  have nd := sc__law_next.nd
  have c__law_cell_at := cal_cell_at (P := P) (w := w) (base := base) F
  have c__law_number := cal_number (P := P) (w := w) (base := base) F
  obtain ⟨b, d, D, D0, H0, ws, rfl, hb, g, h0, ⟨hs, c, hc, lc⟩, tv, q⟩ := h
  refine ⟨_, (pss_cons (ps_asg (pe_op op_add (pe_ix k_ix_list (pv 0) pe_int (fun _ _ => rfl)) pe_int) (pg_sub (pv 0) pe_int set_list))
    (pss_cons (ps_set (i := 2) nd rfl (.inl rfl) (pe_op op_fdivW (pe_ix k_ix_list (pv 0) pe_int (fun _ _ => rfl)) pe_int))
    (pss_cons (ps_set (i := 3) nd rfl (.inl rfl) (pe_op op_add (pe_cal c__law_cell_at hr (by decide) (by rfl) (pa_cons (pe_ix k_ix_list (pv 0) pe_int (fun _ _ => rfl)) (pa_cons (pe_op op_add (pe_ix k_ix_list (pv 0) pe_int (fun _ _ => rfl)) (pv 2)) pa_nil))) (pe_op op_mul pe_int (pv 2))))
    (pss_one (ps_ret (pe_cal c__law_number hr (by decide) (by rfl) (pa_cons (pv 3) (pa_cons (pe_op op_add (pe_op op_mod (pe_callTy call_int1 (by rfl) F.f_int bt_int (pa_cons (pe_ix k_ix_list (pv 0) pe_int (fun _ _ => rfl)) pa_nil)) pe_int) pe_int) (pa_cons (pv 1) pa_nil))))))))), ?_⟩
  obtain ⟨v1, rfl, t1⟩ := args1 tv
  have gz := lc.set (y := .lst [.ref d.s, .int 0, .int (c + 1)]) g h0 nf_lst
  have lz := lc.put (y := .lst [.ref d.s, .int 0, .int (c + 1)])
  refine ⟨.ref d.dl, rfl, d.dl, _, 2, .int c, rfl, rfl, SqL.of lc.h, rfl, c, 1, rfl, rfl, ?_⟩
  refine ⟨.ref d.dl, rfl, d.dl, _, 2, 2, rfl, rfl, lc.h, rfl, ?_⟩
  show tSeq _ _ _ [some (.ref d.dl), some v1, none, none] (upd H d.dl (.lst [.ref d.s, .int 0, .int (c + 1)]))
  have hoff : ∀ (a : Addr) (y : HO), a ≠ d.dl → Loc a y D H → Loc a y D (upd H d.dl (.lst [.ref d.s, .int 0, .int (c + 1)])) := fun a y n l => l.off n
  generalize upd H d.dl (.lst [.ref d.s, .int 0, .int (c + 1)]) = H1 at gz lz hoff ⊢
  have e2 : EvAt (tOp (rIxL K) (tVar 0) (tC (.int 2))) [some (.ref d.dl), some v1, none, none] D H1 (tyI (c + 1)) := ixl_loc rfl lz gz.dh rfl
  refine (ev_opA e2 (fun D2 H2 g2 => Ev.at_ (ev_c (v := .int 12)) g2.dh) (rv_I (wide_div (b := 4) (by decide) (by decide) (by decide) (by decide)))) _ fun v2 D2 H2 g2 t2 => ?_
  have t2 : v2 = .int ((c + 1) / 12) := t2
  subst t2
  have lz2 := lz.grow (x := .lst _) True.intro g2
  have gz2 := gz.trans g2
  have hs2 := g2.d.q.fx (u := .lst _) True.intro hs
  have hq0 : 0 ≤ (c + 1) / 12 := Int.ediv_nonneg (by omega) (by decide)
  show tSeq _ _ _ [some (.ref d.dl), some v1, some (.int ((c + 1) / 12)), none] H2
  have ts : (tyL (d.ns.map tyI)).p (.ref d.s) D2 := ⟨d.s, _, rfl, hs2, by
    have := tysAt_of (xs := d.ns.map V.int) (H := D2)
    rw [List.map_map] at this
    exact this⟩
  have f0 : ∀ D3 H3, Grow D2 H2 D3 H3 → EvAt (tOp (rIxL K) (tVar 0) (tC (.int 0))) [some (.ref d.dl), some v1, some (.int ((c + 1) / 12)), none] D3 H3 (tyV (.ref d.s)) := fun D3 H3 g3 => ixl_loc rfl (lz2.grow (x := .lst _) True.intro g3) g3.dh rfl
  have f1 : ∀ D3 H3, Grow D2 H2 D3 H3 → EvAt (tOp (rIxL K) (tVar 0) (tC (.int 1))) [some (.ref d.dl), some v1, some (.int ((c + 1) / 12)), none] D3 H3 (tyI 0) := fun D3 H3 g3 => ixl_loc rfl (lz2.grow (x := .lst _) True.intro g3) g3.dh rfl
  have x2 : ∀ D3, Ev (tVar 2) [some (.ref d.dl), some v1, some (.int ((c + 1) / 12)), none] D3 (tyI ((c + 1) / 12)) := fun D3 => ev_var rfl rfl
  refine (ev_opA (t := tyI (cellF d.ns (0 + (c + 1) / 12))) (u := tyI (31 * ((c + 1) / 12))) (ev_callA (A := fun x : List Int × Int => [tyL (x.1.map tyI), tyI x.2]) (B := fun x => tyI (cellF x.1 x.2)) (C := fun x => 0 ≤ x.2) (E := E0) (d.ns, 0 + (c + 1) / 12) (show 0 ≤ 0 + (c + 1) / 12 by omega) (eaA_cons (t := tyL (d.ns.map tyI)) (fun Q q => f0 D2 H2 (Grow.refl gz2.dh) Q fun v D3 H3 g3 tv3 => q v D3 H3 g3 (by
    have tv3 : v = .ref d.s := tv3
    subst tv3
    exact Ty.up _ g3.d.q ts)) fun D3 H3 g3 => eaA_cons (ev_opA (f1 D3 H3 g3) (fun D4 H4 g4 => Ev.at_ (x2 D4) g4.dh) rv_I0) fun D4 H4 g4 => eaA_nil g4.dh)) (fun D3 H3 g3 => Ev.at_ (ev_op (ev_c (v := .int 31)) (x2 D3) (rv_I (C := CMul) (g := fun i j => .int (i * j)) (i := 31) (j := (c + 1) / 12) (.inl (by decide)))) g3.dh) rv_I0) _ fun v3 D3 H3 g3 t3 => ?_
  have lz3 := lz2.grow (x := .lst _) True.intro g3
  refine ev_callA (σ := [some (.ref d.dl), some v1, some (.int ((c + 1) / 12)), some v3]) (A := fun x : Int × Int × Int => [tyI x.1, tyI x.2.1, tyI x.2.2]) (B := fun x => tyI (numF x.1 x.2.1 x.2.2)) (C := fun x => 0 < x.2.2 ∧ 0 ≤ x.2.1 ∧ x.2.1 ≤ 1000) (E := E0) (cellF d.ns (0 + (c + 1) / 12) + 31 * ((c + 1) / 12), (c + 1) % 12 + 1, b) ⟨hb, by have := Int.emod_nonneg (c + 1) (show (12 : Int) ≠ 0 by decide); show 0 ≤ (c + 1) % 12 + 1; omega, by have := Int.emod_lt_of_pos (c + 1) (show (0 : Int) < 12 by decide); show (c + 1) % 12 + 1 ≤ 1000; omega⟩ (eaA_cons (Ev.at_ (ev_var (i := 3) rfl t3) g3.dh) fun D4 H4 g4 => eaA_cons (ev_opA (ev_opA (ev_cbA (eaA_cons (t := tyI (c + 1)) (ixl_loc (i := 0) rfl (lz3.grow (x := .lst _) True.intro g4) g4.dh rfl) fun D5 H5 g5 => eaA_nil g5.dh) rc_int1) (fun D5 H5 g5 => Ev.at_ (ev_c (v := .int 12)) g5.dh) (rv_I (by decide))) (fun D5 H5 g5 => Ev.at_ (ev_c (v := .int 1)) g5.dh) rv_I0) fun D5 H5 g5 => eaA_cons (Ev.at_ (show Ev (tVar 1) _ D5 (tyI b) from ev_var rfl t1) g5.dh) fun D6 H6 g6 => eaA_nil g6.dh) _ fun v D6 H6 g6 t6 => ?_
  have gg := g2.trans (g3.trans g6)
  refine q v D6 H6 gg.d (gz.trans gg) ⟨gg.d.q.fx (u := .lst _) True.intro hs, c + 1, by omega, lz.grow (x := .lst _) True.intro gg⟩ (fun a y n f l => ?_) ⟨_, t6, (numF_in hb).1, (numF_in hb).2⟩
  exact (hoff a y n l).grow f gg
def tyAny (ts : List Ty) : Ty := ⟨fun v H => ∃ t ∈ ts, t.p v H, fun k ⟨t, m, h⟩ => ⟨t, m, t.up k h⟩⟩
abbrev sp_pick : Sp := SpX (fun ts : List Ty => [tyL ts]) tyAny (fun ts => 0 < ts.length)
theorem cal_pick (F : Fc K mg) : Cal P w K mg base 4 "_law_pick" sp_pick := mk__law_pick F (fun _ _ _ _ h => SpX.len (n := 1) (fun _ => rfl) h) fun f cdv A outer s H vs Q E hr h => by
  have nd := sc__law_pick.nd
  have c__law_next := cal_next (P := P) (w := w) (base := base) F
  obtain ⟨ts, d, D, D0, H0, ws, rfl, hz, g, h0, r, tv, q⟩ := h
  refine ⟨_, (pss_one (ps_ret (pe_ix k_ix_list (pv 1) (pe_cal c__law_next hr (by decide) (by rfl) (pa_cons (pv 0) (pa_cons (pe_callB k_len_seq (by rfl) F.f_len bt_len (pa_cons (pv 1) pa_nil)) pa_nil))) (fun _ _ => rfl)))), ?_⟩
  obtain ⟨v1, rfl, t1⟩ := args1 tv
  refine ⟨v1, rfl, ?_⟩
  have x1 : Ev (tVar 1) [some (.ref d.dl), some v1] D (tyL ts) := ev_var rfl t1
  refine (ev_callX (A := fun b : Int => [tyI b]) (B := tyRg) (C := fun b => 0 < b) (E := E0) (σ := [some (.ref d.dl), some v1]) (ts.length : Int) (by omega) rfl (ea_cons (ev_cb (ea_cons x1 ea_nil) rc_lenL) ea_nil) g h0 r).bind fun vi D2 H2 k2 g2 r2 l2 ⟨i, e, hi0, hi1⟩ => ?_
  subst e
  obtain ⟨a, vs, rfl, ha, hv⟩ := (tyL ts).up k2.q t1
  have hlt : i.toNat < ts.length := by omega
  obtain ⟨v, e1, e2⟩ := at_pr (i := i) (t := ts[i.toNat]) hv (by rw [atI_pos hi0 hi1, List.getElem?_eq_getElem hlt])
  exact ⟨a, vs, i, v, rfl, rfl, SqL.of (g2.dh.q.fx (u := .lst _) True.intro ha), e1, q v D2 H2 k2 g2 r2 l2 ⟨_, List.getElem_mem hlt, e2⟩⟩
end
end K02
set_option Elab.async false
set_option linter.all false
set_option maxRecDepth 100000
set_option maxHeartbeats 8000000
namespace K02
open PySem PySem.Spec PyProof.Rows L2 PySem.W
section
variable {P : Program} {w : World} {K : PySem.W.Frag} {mg : Str → Option Value} {base : Heap}
variable {σ : Sl} {D D' H H' D0 H0 : Hp} {te ta tb tk tv td : TE} {tt : TT} {t u z : Ty} {ts : List Ty}
/-! ### steps that draw -/
structure Stp (d : Dw) (D0 H0 D H D' H' : Hp) : Prop where
  kp : Kp D D'
  g : Grow D0 H0 D' H'
  r : Dr d D' H'
  l : ∀ a y, a ≠ d.dl → Fre y → Loc a y D H → Loc a y D' H'
theorem Stp.trans {d : Dw} {D1 H1 D2 H2 : Hp} (x : Stp d D0 H0 D H D1 H1) (y : Stp d D0 H0 D1 H1 D2 H2) : Stp d D0 H0 D H D2 H2 := ⟨x.kp.trans y.kp, y.g, y.r, fun a b n f l => y.l a b n f (x.l a b n f l)⟩
theorem Stp.of {d : Dw} (g : Grow D0 H0 D H) (r : Dr d D H) (g1 : Grow D H D' H') : Stp d D0 H0 D H D' H' := ⟨g1.d, g.trans g1, r.grow g1, fun a y _ f l => l.grow f g1⟩
theorem Stp.grow {d : Dw} {D1 H1 : Hp} (x : Stp d D0 H0 D H D1 H1) (g1 : Grow D1 H1 D' H') : Stp d D0 H0 D H D' H' := x.trans (Stp.of x.g x.r g1)
def EvS (d : Dw) (D0 H0 : Hp) (te : TE) (σ : Sl) (D H : Hp) (t : Ty) : Prop := ∀ Q : VK, (∀ v D' H', Stp d D0 H0 D H D' H' → t.p v D' → Q v H') → te σ H Q
theorem EvX.s {d : Dw} (e : EvX d D0 H0 te σ D H t) : EvS d D0 H0 te σ D H t := fun Q q => e Q fun v D' H' k g r l tv => q v D' H' ⟨k, g, r, l⟩ tv
theorem EvAt.s {d : Dw} (e : EvAt te σ D H t) (g : Grow D0 H0 D H) (r : Dr d D H) : EvS d D0 H0 te σ D H t := fun Q q => e Q fun v D' H' g1 tv => q v D' H' (.of g r g1) tv
def TtS (d : Dw) (D0 H0 : Hp) (tt : TT) (σ : Sl) (D H : Hp) : Prop := ∀ Q : Bool → Hp → Prop, (∀ b D' H', Stp d D0 H0 D H D' H' → Q b H') → tt σ H Q
theorem evs_if {d : Dw} (x : TtS d D0 H0 tt σ D H) (e1 : ∀ D1 H1, Stp d D0 H0 D H D1 H1 → EvS d D0 H0 ta σ D1 H1 t) (e2 : ∀ D1 H1, Stp d D0 H0 D H D1 H1 → EvS d D0 H0 tb σ D1 H1 t) : EvS d D0 H0 (tIf tt ta tb) σ D H t := fun Q q => x _ fun b D1 H1 s => by
  cases b with
  | true => exact e1 D1 H1 s Q fun v D2 H2 s2 tv => q v D2 H2 (s.trans s2) tv
  | false => exact e2 D1 H1 s Q fun v D2 H2 s2 tv => q v D2 H2 (s.trans s2) tv
theorem evs_sub {d : Dw} (s : Ty.Sub t u) (e : EvS d D0 H0 te σ D H t) : EvS d D0 H0 te σ D H u := fun Q q => e Q fun v D' H' st tv => q v D' H' st (s v D' tv)
theorem evs_op {d : Dw} {r : R2} (ea : EvS d D0 H0 ta σ D H t) (eb : ∀ D1 H1, Stp d D0 H0 D H D1 H1 → EvS d D0 H0 tb σ D1 H1 u) (hr : ∀ x y D1 H1, Stp d D0 H0 D H D1 H1 → t.p x D1 → u.p y D1 → EvAt (fun _ => r x y) σ D1 H1 z) : EvS d D0 H0 (tOp r ta tb) σ D H z := fun Q q =>
  ea _ fun x D2 H2 s2 tx => eb D2 H2 s2 _ fun y D3 H3 s3 ty => hr x y D3 H3 (s2.trans s3) (t.up s3.kp.q tx) ty Q fun v D4 H4 g4 tz => q v D4 H4 ((s2.trans s3).grow g4) tz
/-- the next number -/
theorem evs_next {d : Dw} {i : Nat} {m : Int} (hm : 0 < m) (hl : σ[i]? = some (some (.ref d.dl))) (e : Ev te σ D (tyI m)) (g : Grow D0 H0 D H) (h0 : H0 d.dl = none) (r : Dr d D H) : EvS d D0 H0 (tCall sp_next [] E0 (tCons (tVar i) (tCons te tNil))) σ D H (tyRg m) :=
  (ev_callX (A := fun b : Int => [tyI b]) (B := tyRg) (C := fun b => 0 < b) m hm hl (ea_cons e ea_nil) g h0 r).s
theorem evs_pick {d : Dw} {i : Nat} (hm : 0 < ts.length) (hl : σ[i]? = some (some (.ref d.dl))) (e : Ev te σ D (tyL ts)) (g : Grow D0 H0 D H) (h0 : H0 d.dl = none) (r : Dr d D H) : EvS d D0 H0 (tCall sp_pick [] E0 (tCons (tVar i) (tCons te tNil))) σ D H (tyAny ts) :=
  (ev_callX (A := fun ts : List Ty => [tyL ts]) (B := tyAny) (C := fun ts => 0 < ts.length) ts hm hl (ea_cons e ea_nil) g h0 r).s
theorem tts_gt {d : Dw} {i : Nat} {m : Int} (hm : 0 < m) (hl : σ[i]? = some (some (.ref d.dl))) (g : Grow D0 H0 D H) (h0 : H0 d.dl = none) (r : Dr d D H) : TtS d D0 H0 (tTest (tOp (rI0 fun i j => .bl (decide (j < i))) (tCall sp_next [] E0 (tCons (tVar i) (tCons (tC (.int m)) tNil))) (tC (.int 0)))) σ D H := fun Q q =>
  evs_next hm hl ev_c g h0 r _ fun v D1 H1 s ⟨i, e, _, _⟩ => by
    subst e
    exact ⟨i, 0, rfl, rfl, _, rfl, q _ D1 H1 s⟩
theorem tts_eq {d : Dw} {i : Nat} {m : Int} (hm : 0 < m) (hl : σ[i]? = some (some (.ref d.dl))) (g : Grow D0 H0 D H) (h0 : H0 d.dl = none) (r : Dr d D H) : TtS d D0 H0 (tTest (tOp rEq (tCall sp_next [] E0 (tCons (tVar i) (tCons (tC (.int m)) tNil))) (tC (.int 0)))) σ D H := fun Q q =>
  evs_next hm hl ev_c g h0 r _ fun v D1 H1 s ⟨i, e, _, _⟩ => by
    subst e
    exact ⟨rfl, _, rfl, q _ D1 H1 s⟩
/-! ### dict(list of pairs) -/
abbrev rDictP (K : PySem.W.Frag) : List V → Hp → VK → Prop := fun xs H Q => ∃ (a : Addr) (ps : List Addr) (kvs : List (Key × V)), xs = [.ref a] ∧ SqL K H a (ps.map V.ref) ∧ Paired (fun p kv => SqT K H p [kV kv.1, kv.2]) ps kvs ∧
    ∀ p, H p = none → Q (.ref p) (upd H p (.dK (mergeK [] kvs)))
theorem k_dictP {X : Cx} (hc : X.calm = true) (h : X.K = K := by rfl) : CallR X (.type "dict") (rDictP K) := h ▸ call_dictP hc
theorem merge_nd : ∀ {kvs acc : List (Key × V)}, ((acc ++ kvs).map (·.1)).Nodup → mergeK acc kvs = acc ++ kvs
  | [], acc, _ => by rw [List.append_nil]; rfl
  | kv :: r, acc, h => by
    have e : putK acc kv.1 kv.2 = acc ++ [(kv.1, kv.2)] := putK_new _ (valV_no fun hm => by
      rw [List.map_append, List.nodup_append] at h
      exact h.2.2 _ hm _ (by rw [List.map_cons]; exact List.mem_cons_self) rfl)
    show mergeK (putK acc kv.1 kv.2) r = _
    rw [e, merge_nd (by rw [List.append_assoc]; exact h), List.append_assoc]
    rfl
theorem pairs_at {α : Type} {key : α → Key} {out : α → Ty} (k : Kp D H) : ∀ {xs : List α} {vs : List V}, TysAt (xs.map fun a => tyT [tyV (kV (key a)), out a]) vs D → ∃ (ps : List Addr) (kvs : List (Key × V)), vs = ps.map V.ref ∧ Paired (fun p kv => SqT K H p [kV kv.1, kv.2]) ps kvs ∧ KvsAt (xs.map fun a => (key a, out a)) kvs D
  | [], _, h => by
    cases h
    exact ⟨[], [], rfl, .nil, .nil⟩
  | a :: r, _, h => by
    rw [List.map_cons] at h
    cases h with
    | cons h1 h2 =>
      obtain ⟨ps, kvs, e, p2, k2⟩ := pairs_at k h2
      obtain ⟨b, ws, rfl, hb, hw⟩ := h1
      obtain ⟨w0, w1, rfl, q0, q1⟩ := args2 hw
      have q0 : w0 = kV (key a) := q0
      subst q0
      exact ⟨b :: ps, (key a, w1) :: kvs, by rw [e]; rfl, .cons (SqT.of (k.q.fx (u := .tup _) True.intro hb)) p2, .cons ⟨rfl, q1⟩ k2⟩
/-- .. it may change -/
theorem dictL {α : Type} {key : α → Key} {out : α → Ty} {xs : List α} {Q : VK} (e : EvAt te σ D H (tyL (xs.map fun a => tyT [tyV (kV (key a)), out a]))) (nd : (xs.map key).Nodup)
    (q : ∀ d kvs D1 H1, Grow D H D1 H1 → H1 d = none → KvsAt (xs.map fun a => (key a, out a)) kvs D1 → Q (.ref d) (upd H1 d (.dK kvs))) : tCB (rDictP K) (tCons te tNil) σ H Q := e _ fun v D1 H1 g1 tv => by
  obtain ⟨a, vs, rfl, ha, hv⟩ := tv
  obtain ⟨ps, kvs, rfl, p2, k2⟩ := pairs_at (K := K) g1.dh hv
  refine ⟨a, ps, kvs, rfl, SqL.of (g1.dh.q.fx (u := .lst _) True.intro ha), p2, fun d hd => ?_⟩
  have : mergeK [] kvs = kvs := merge_nd (acc := []) (by
    rw [List.nil_append, k2.keys, List.map_map]
    exact nd)
  rw [this]
  exact q d kvs D1 H1 g1 hd k2
/-- .. it stands -/
theorem dictD {α : Type} {key : α → Key} {out : α → Ty} {xs : List α} (e : EvAt te σ D H (tyL (xs.map fun a => tyT [tyV (kV (key a)), out a]))) (nd : (xs.map key).Nodup) : EvAt (tCB (rDictP K) (tCons te tNil)) σ D H (tyD (xs.map fun a => (key a, out a))) := fun Q q =>
  dictL e nd fun d kvs D1 H1 g1 hd k2 => q (.ref d) _ _ (g1.add hd (.inr True.intro)) ⟨d, kvs, rfl, .inl upd_same, KvsAt.up (Kp.new (g1.dh.dom hd) nf_dK).q k2⟩
/-- a value at a key that stands -/
theorem KvsAt.set {κ α : Type} [DecidableEq κ] {key : α → κ} {out : α → Ty} {k : κ} {v : V} {xs : List α} {kvs : List (κ × V)} (h : KvsAt (xs.map fun a => (key a, out a)) kvs D) (hk : ∃ b ∈ xs, key b = k) (hv : t.p v D) : KvsAt (xs.map fun a => (key a, if key a = k then t else out a)) (putK kvs k v) D := by
  have ha : (kvs.any fun kv => decide (kv.1 = k)) = true := by
    obtain ⟨b, hb, e⟩ := hk
    have : k ∈ kvs.map (·.1) := by
      rw [h.keys, List.map_map]
      exact List.mem_map.mpr ⟨b, hb, e⟩
    obtain ⟨kv, hkv, e2⟩ := List.mem_map.mp this
    exact List.any_eq_true.mpr ⟨kv, hkv, decide_eq_true e2⟩
  unfold putK
  rw [if_pos ha]
  clear ha hk
  induction xs generalizing kvs with
  | nil =>
    cases h
    exact .nil
  | cons a r ih =>
    rw [List.map_cons] at h
    cases h with
    | @cons kv _ kvs2 _ h1 h2 =>
      obtain ⟨e1, e2⟩ := h1
      rw [List.map_cons, List.map_cons]
      refine .cons ?_ (ih h2)
      by_cases c : kv.1 = k
      · rw [if_pos c]
        exact ⟨e1, by
          show Ty.p (if key a = k then t else out a) v D
          rw [if_pos (e1.symm.trans c)]
          exact hv⟩
      · rw [if_neg c]
        exact ⟨e1, by
          show Ty.p (if key a = k then t else out a) kv.2 D
          rw [if_neg fun z => c (e1.trans z)]
          exact e2⟩
theorem putK_len' {kvs : List (Key × V)} {k : Key} {v : V} (h : k ∈ kvs.map (·.1)) : (putK kvs k v).length = kvs.length := by
  have ha : (kvs.any fun kv => decide (kv.1 = k)) = true := by
    obtain ⟨kv, hkv, e2⟩ := List.mem_map.mp h
    exact List.any_eq_true.mpr ⟨kv, hkv, decide_eq_true e2⟩
  unfold putK
  rw [if_pos ha, List.length_map]
/-- d[k] = v of a local dict, after an evaluation that draws -/
theorem st_dputS {E : Ends} {d : Dw} {i : Nat} {a : Addr} {acc : List (Key × V)} {k : Key} (hd : σ[i]? = some (some (.ref a))) (ne : a ≠ d.dl) (c : Loc a (.dK acc) D H) (ev : EvS d D0 H0 tv σ D H t) (ek : ∀ D1, Kp D D1 → Ev tk σ D1 (tyV (kV k))) (z : acc.length < 100000)
    (q : ∀ v D1 H1, Stp d D0 H0 D H D1 H1 → t.p v D1 → Loc a (.dK acc) D1 H1 → E.nx σ (upd H1 a (.dK (putK acc k v)))) : sDPut (tVar i) tk tv E σ H :=
  ev _ fun v D1 H1 s1 hv => ⟨.ref a, hd, (ek D1 s1.kp).use (s1.g.dh) fun y D2 H2 g2 hy => by
    have hy : y = kV k := hy
    subst hy
    have s2 := s1.grow g2
    have c2 := s2.l a (.dK acc) ne True.intro c
    exact ⟨a, _, rfl, DPut.k c2.h (Nat.lt_of_lt_of_le z (by decide)), q v D2 H2 s2 (t.up g2.d.q hv) c2⟩⟩
end
end K02
set_option Elab.async false
set_option linter.all false
set_option maxRecDepth 100000
set_option maxHeartbeats 8000000
namespace K02
open PySem PySem.Spec PyProof.Rows L2 PySem.W
/-! ### drawn rows -/
def txs : List Str := ["", "", "a", "b"]
structure RowB (regs : List Str) (z : Nat) (row : List Item) : Prop where
  len : row.length ≤ z
  it : ∀ i ∈ row, (∃ s ∈ txs, i = .inl s) ∨ ∃ r ∈ regs, i = .inr r
theorem RowB.ok {regs : List Str} {z : Nat} {row : List Item} (b : RowB regs z row) (hz : z ≤ 100) (hr : ∀ r ∈ regs, 1 ≤ r.length ∧ r.length ≤ 8 ∧ Sm r) : RowOk regs row := by
  refine ⟨Nat.le_trans b.len hz, fun i hi => ?_⟩
  rcases b.it i hi with ⟨s, hs, rfl⟩ | ⟨r, hm, rfl⟩
  · refine ⟨?_, fun r e => by cases e⟩
    have : ∀ s ∈ txs, s.length ≤ 100 ∧ Sg s := by
      unfold Sg
      decide +kernel
    exact this s hs
  · refine ⟨fun c hc => ?_, fun r2 e => by cases e; exact hm⟩
    have h1 : ∀ c ∈ ("abcdefghijklmnopqrstuvwxyz" : Str).cps.toList, c ∈ ("abcdefghijklmnopqrstuvwxyz0123456789" : Str).cps.toList := by decide +kernel
    exact h1 c ((hr r hm).2.2 c hc)
theorem RowB.mono {regs : List Str} {z y : Nat} {row : List Item} (b : RowB regs z row) (h : z ≤ y) : RowB regs y row := ⟨Nat.le_trans b.len h, b.it⟩
theorem RowB.app {regs : List Str} {z y : Nat} {a b : List Item} (x : RowB regs z a) (w : RowB regs y b) : RowB regs (z + y) (a ++ b) := ⟨by rw [List.length_append]; exact Nat.add_le_add x.len w.len, fun i hi => by
  rcases List.mem_append.mp hi with hi | hi
  · exact x.it i hi
  · exact w.it i hi⟩
theorem RowB.reg {regs : List Str} {r : Str} (h : r ∈ regs) : RowB regs 1 [.inr r] := ⟨Nat.le_refl _, fun i hi => .inr ⟨r, h, List.mem_singleton.mp hi⟩⟩
theorem RowB.txt {regs : List Str} {s : Str} (h : s ∈ txs) : RowB regs 1 [.inl s] := ⟨Nat.le_refl _, fun i hi => .inl ⟨s, h, List.mem_singleton.mp hi⟩⟩
def tyRB (regs : List Str) (z : Nat) : Ty := ⟨fun v H => ∃ row, RowB regs z row ∧ (tyL (row.map tyItem)).p v H, fun k ⟨row, b, h⟩ => ⟨row, b, Ty.up _ k h⟩⟩
section
variable {P : Program} {w : World} {K : PySem.W.Frag} {mg : Str → Option Value} {base : Heap}
variable {σ : Sl} {D D' H H' D0 H0 : Hp} {te ta tb tk tv td : TE} {tt : TT} {t u z : Ty} {ts : List Ty}
theorem get_locT {i : Nat} {d : Addr} {acc : List (Key × V)} {kts : List (Key × Ty)} {k : Key} (hd : σ[i]? = some (some (.ref d))) (c : Loc d (.dK acc) D H) (kv : KvsAt kts acc D) (ek : Ev tk σ D (tyV (kV k))) (kp : Kp D H) (h : Has kts k t) : EvAt (tDGet (tVar i) tk) σ D H t := fun Q q => by
  obtain ⟨v, e1, e2⟩ := (lookup_at kv k).1 t h
  refine get_loc hd c ek kp e1 Q fun v2 D2 H2 g2 hv => q v2 D2 H2 g2 ?_
  have hv : v2 = v := hv
  subst hv
  exact t.up g2.d.q e2
theorem sq_dictL {α : Type} {key : α → Key} {out : α → Ty} {xs : List α} {E : Ends} {b : TS} {i : Nat} (e : EvAt te σ D H (tyL (xs.map fun a => tyT [tyV (kV (key a)), out a]))) (nd : (xs.map key).Nodup)
    (q : ∀ d kvs D1 H1, Grow D H D1 H1 → H1 d = none → KvsAt (xs.map fun a => (key a, out a)) kvs D1 → b E (σ.set i (some (.ref d))) (upd H1 d (.dK kvs))) : tSeq (tAsg (tCB (rDictP K) (tCons te tNil)) (gName i)) b E σ H := dictL (Q := fun v H' => b E (σ.set i (some v)) H') e nd q
abbrev kvL (regs : List Str) (f : Str → List Item) : List (Key × Ty) := regs.map fun r => ((Sum.inr r : Key), tyL ((f r).map tyItem))
theorem rw_put {regs : List Str} {f : Str → List Item} {z y : Nat} {kvs : List (Key × V)} {r5 : Str} {v : V} (kv : KvsAt (kvL regs f) kvs D) (hb : ∀ r ∈ regs, RowB regs z (f r)) (hzy : z ≤ y) (h5 : r5 ∈ regs) (hv : (tyRB regs y).p v D) : ∃ f', KvsAt (kvL regs f') (putK kvs (.inr r5) v) D ∧ (∀ r ∈ regs, RowB regs y (f' r)) := by
  obtain ⟨row, b, tr⟩ := hv
  refine ⟨fun r => if r = r5 then row else f r, ?_, fun r hr => ?_⟩
  · have := KvsAt.set (key := fun r : Str => (Sum.inr r : Key)) (k := .inr r5) (t := tyL (row.map tyItem)) kv ⟨r5, h5, rfl⟩ tr
    have e : (regs.map fun a => ((Sum.inr a : Key), if (Sum.inr a : Key) = .inr r5 then tyL (row.map tyItem) else tyL ((f a).map tyItem))) = kvL regs fun r => if r = r5 then row else f r := List.map_congr_left fun a _ => by
      by_cases c : a = r5
      · subst c
        simp
      · rw [if_neg (fun e => c (Sum.inr.inj e))]
        simp [c]
    rw [e] at this
    exact this
  · show RowB regs y (if r = r5 then row else f r)
    by_cases c : r = r5
    · rw [if_pos c]
      exact b
    · rw [if_neg c]
      exact (hb r hr).mono hzy
def tyRowsB (regs : List Str) : Ty := ⟨fun v H => ∃ g : Str → List Item, (∀ r ∈ regs, RowB regs 4 (g r)) ∧ (tyRows regs g).p v H, fun k ⟨g, b, h⟩ => ⟨g, b, Ty.up _ k h⟩⟩
abbrev sp_rows : Sp := SpX (fun regs : List Str => [tyNames regs, tyNames ["a", "b"]]) tyRowsB (fun regs => regs.length ≤ 2 ∧ regs.Nodup)
def Oth (d : Dw) (D H D' H' : Hp) : Prop := ∀ a y, a ≠ d.dl → Fre y → Loc a y D H → Loc a y D' H'
theorem Oth.grow {d : Dw} {D1 H1 D2 H2 : Hp} (x : Oth d D H D1 H1) (g : Grow D1 H1 D2 H2) : Oth d D H D2 H2 := fun a y n f l => (x a y n f l).grow f g
theorem Oth.put {d : Dw} {D1 H1 : Hp} {p : Addr} {y : HO} (x : Oth d D H D1 H1) (n : H p = none) : Oth d D H D1 (upd H1 p y) := fun a z na f l => (x a z na f l).off (l.ne_new n)
theorem Oth.own {d : Dw} {D1 H1 : Hp} {p : Addr} {u : HO} (x : Oth d D H D1 H1) (n : H p = none) : Oth d D H (upd D1 p u) H1 := fun a z na f l => ⟨by rw [upd_ne (l.ne_new n)]; exact (x a z na f l).d, (x a z na f l).h⟩
theorem Dr.own {d : Dw} {p : Addr} {u : HO} (r : Dr d D H) (k : Kp D (upd D p u)) (n : d.dl ≠ p) : Dr d (upd D p u) H := by
  obtain ⟨h1, c, hc, l⟩ := r
  exact ⟨k.q.fx (u := .lst _) True.intro h1, c, hc, by rw [upd_ne n]; exact l.d, l.h⟩
theorem Oth.stp {d : Dw} {D1 H1 D2 H2 : Hp} (x : Oth d D H D1 H1) (s : Stp d D0 H0 D1 H1 D2 H2) : Oth d D H D2 H2 := fun a y n f l => s.l a y n f (x a y n f l)
def RwI (regs : List Str) (d : Dw) (Di Hi : Hp) (v1 v2 : V) (rd : Addr) (z : Nat) (s : Sl) (D H : Hp) : Prop := ∃ (kvs : List (Key × V)) (f : Str → List Item) (x3 x5 x6 : Option V), s = [some (.ref d.dl), some v1, some v2, x3, some (.ref rd), x5, x6] ∧ Dr d D H ∧ Oth d Di Hi D H ∧ Loc rd (.dK kvs) D H ∧ KvsAt (kvL regs f) kvs D ∧ ∀ r ∈ regs, RowB regs z (f r)
theorem RwI.grow {regs : List Str} {d : Dw} {Di Hi : Hp} {v1 v2 : V} {rd : Addr} {z : Nat} {s : Sl} {D1 H1 D2 H2 : Hp} (x : RwI regs d Di Hi v1 v2 rd z s D1 H1) (g : Grow D1 H1 D2 H2) : RwI regs d Di Hi v1 v2 rd z s D2 H2 := by
  obtain ⟨kvs, f, x3, x5, x6, e, r, o, c, kv, b⟩ := x
  exact ⟨kvs, f, x3, x5, x6, e, r.grow g, o.grow g, c.grow (x := .dK kvs) True.intro g, KvsAt.up g.d.q kv, b⟩
theorem inr_nd {regs : List Str} (h : regs.Nodup) : (regs.map fun r => (Sum.inr r : Key)).Nodup := List.Pairwise.map _ (fun a b h e => h (Sum.inr.inj e)) h
theorem cal_rows (F : Fc K mg) : Cal P w K mg base 5 "_law_rows" sp_rows := mk__law_rows F (fun _ _ _ _ h => SpX.len (n := 2) (fun _ => rfl) h) fun f cdv A outer s H vs Q E hr h => by
  have nd := sc__law_rows.nd
  have hu := Nat.lt_of_le_of_lt (Nat.add_le_add_left (by decide : 1 ≤ 64) _) hr.units
  have c__law_next := cal_next (P := P) (w := w) (base := base) F
  have c__law_pick := cal_pick (P := P) (w := w) (base := base) F
  obtain ⟨regs, d, D, D0, H0, ws, rfl, ⟨hz, hnd⟩, g, h0, r, tv, q⟩ := h
  refine ⟨_, (pss_cons (ps_set (i := 4) nd rfl (.inr rfl) (pe_callTy (k_dictP rfl) (by rfl) F.f_dict bt_dict (pa_cons (pe_lc (own := [("_law_name", 3)]) rfl nd (k_pi_list (pv 1)) (blkOk_by (N := n__law_rows) (sc := defScope s__law_rows) (by decide +kernel)) (fun _ _ _ _ _ => (pg_name (i := 3) nd rfl (.inl rfl))) (fun _ _ _ _ _ => pts_nil) (fun _ _ _ _ _ => (pe_tup (pa_cons (pv 3) (pa_cons (pe_lst pa_nil) pa_nil))))) pa_nil)))
    (pss_cons (ps_for PassesOwn.never rfl (k_pi_list (pv 1)) (pg_name (i := 3) nd rfl (.inl rfl)) (pss_one (ps_if (pt_cmpR op_gt (pe_cal c__law_next hr (by decide) (by rfl) (pa_cons (pv 0) (pa_cons pe_int pa_nil))) pe_int (nomark _)) (pss_cons (ps_set (i := 5) nd rfl (.inl rfl) (pe_ifExp (pt_cmpR op_gt (pe_cal c__law_next hr (by decide) (by rfl) (pa_cons (pv 0) (pa_cons pe_int pa_nil))) pe_int (nomark _)) (pv 3) (pe_cal c__law_pick hr (by decide) (by rfl) (pa_cons (pv 0) (pa_cons (pv 1) pa_nil)))))
        (pss_one (ps_dput hu (pv 4) (pv 5) (pe_ifExp (pt_cmpR op_eq (pe_cal c__law_next hr (by decide) (by rfl) (pa_cons (pv 0) (pa_cons pe_int pa_nil))) pe_int (nomark _)) (pe_op op_cat (pe_dget hu (pv 4) (pv 5) (fun _ _ => rfl)) (pe_lst (pa_cons (pe_tup (pa_cons (pv 3) pa_nil)) pa_nil))) (pe_op op_cat (pe_lst (pa_cons (pe_tup (pa_cons (pv 3) pa_nil)) pa_nil)) (pe_dget hu (pv 4) (pv 5) (fun _ _ => rfl)))) rfl))) pss_nil)))
    (pss_cons (ps_for PassesOwn.never rfl (k_pi_list (pv 1)) (pg_name (i := 3) nd rfl (.inl rfl)) (pss_cons (ps_set (i := 6) nd rfl (.inl rfl) (pe_cal c__law_pick hr (by decide) (by rfl) (pa_cons (pv 0) (pa_cons (pe_op op_cat (pe_lst (pa_cons pe_str (pa_cons pe_str pa_nil))) (pv 2)) pa_nil))))
      (pss_one (ps_dput hu (pv 4) (pv 3) (pe_ifExp (pt_cmpR op_eq (pe_cal c__law_next hr (by decide) (by rfl) (pa_cons (pv 0) (pa_cons pe_int pa_nil))) pe_int (nomark _)) (pe_op op_cat (pe_lst (pa_cons (pv 6) pa_nil)) (pe_dget hu (pv 4) (pv 3) (fun _ _ => rfl))) (pe_op op_cat (pe_dget hu (pv 4) (pv 3) (fun _ _ => rfl)) (pe_lst (pa_cons (pv 6) pa_nil)))) rfl))))
    (pss_one (ps_ret (pe_callTy (k_dictP rfl) (by rfl) F.f_dict bt_dict (pa_cons (pe_lc (own := [("_law_name", 3)]) rfl nd (k_pi_list (pv 1)) (blkOk_by (N := n__law_rows) (sc := defScope s__law_rows) (by decide +kernel)) (fun _ _ _ _ _ => (pg_name (i := 3) nd rfl (.inl rfl))) (fun _ _ _ _ _ => pts_nil) (fun _ _ _ _ _ => (pe_tup (pa_cons (pv 3) (pa_cons (pe_callTy k_tuple_of (by rfl) F.f_tuple bt_tuple (pa_cons (pe_dget hu (pv 4) (pv 3) (fun _ _ => rfl)) pa_nil)) pa_nil))))) pa_nil))))))), ?_⟩
  obtain ⟨v1, v2, rfl, t1, t2⟩ := args2 tv
  have x1 : Ev (tVar 1) [some (.ref d.dl), some v1, some v2, none, none, none, none] D (tyNames regs) := ev_var rfl t1
  refine sq_dictL (σ := [some (.ref d.dl), some v1, some v2, none, none, none, none]) (xs := regs) (key := fun r => .inr r) (out := fun _ => tyL []) (Ev.at_ (ev_lcm tyS (fun r => tyT [tyS r, tyL []]) (evi_list x1).i (by omega) fun r hr D1 k1 x hx => lcel rfl (ev_tup (ts := [tyS r, tyL []]) (ea_cons (ev_var (i := 3) rfl hx) (ea_cons (ev_lst ea_nil) ea_nil)))) g.dh) (inr_nd hnd) fun rd kvs D1 H1 g1 hrd kv => ?_
  have gg := g.trans g1
  have hrd0 : H0 rd = none := gg.h.dom hrd
  have hrdH : H rd = none := g1.h.dom hrd
  have gB := gg.mut (u := .dK kvs) hrd0 (gg.dh.dom hrd) nf_dK
  have cB : Loc rd (.dK kvs) D1 (upd H1 rd (.dK kvs)) := Loc.new gg.dh hrd
  have ndl : d.dl ≠ rd := fun e => by
    obtain ⟨_, c, _, l⟩ := r.grow g1
    have := l.h
    rw [e, hrd] at this
    cases this
  have rB := (r.grow g1).off (y := .dK kvs) ndl
  have nrd : rd ≠ d.dl := fun e => ndl e.symm
  have oB : Oth d D H D1 (upd H1 rd (.dK kvs)) := Oth.put (fun a y n f l => l.grow f g1) hrdH
  have w1 := (tyNames regs).up g1.d.q t1
  have w2 := (tyNames ["a", "b"]).up g1.d.q t2
  have kD1 := g1.d
  generalize upd H1 rd (.dK kvs) = H2 at gB cB rB oB ⊢
  have kvl : kvs.length = regs.length := by rw [pr_len kv, List.length_map]
  have lenOf : ∀ {D3 : Hp} {kvs3 : List (Key × V)} {f3 : Str → List Item}, KvsAt (kvL regs f3) kvs3 D3 → kvs3.length < 100000 := fun h => by
    rw [pr_len h, List.length_map]
    omega
  refine st_for (D0 := D0) (H0 := H0) (xs := regs) (D := D1) tyS (fun i => RwI regs d D H v1 v2 rd i) RwI.grow (evi_list (ev_var (t := tyNames regs) (σ := [some (.ref d.dl), some v1, some v2, none, some (.ref rd), none, none]) (i := 1) rfl w1)).i gB (fun D3 H3 g3 => RwI.grow ⟨kvs, fun _ => [], none, none, none, rfl, rB, oB, cB, kv, fun r hr => ⟨Nat.le_refl _, fun i hi => by cases hi⟩⟩ g3) ?_ ?_
  · rintro B kb i nm hi s1 D3 H3 x kD3 gH3 ⟨kv3, f3, x3, x5, x6, rfl, r3, o3, c3, kk3, b3⟩ tx
    have hnm := List.mem_of_getElem? hi
    have hil := (List.getElem?_eq_some_iff.mp hi).1
    have tx : x = .str nm := tx
    subst tx
    have y1 := (tyNames regs).up (kb.trans kD3).q w1
    show tIfS _ _ _ _ [some (.ref d.dl), some v1, some v2, some (.str nm), some (.ref rd), x5, x6] H3
    refine tts_gt (m := 6) (by decide) rfl gH3 h0 r3 _ fun b D4 H4 s4 => ?_
    have c4 := s4.l rd (.dK kv3) nrd True.intro c3
    cases b with
    | false => exact iteF ⟨D4, kD3.trans s4.kp, s4.g, kv3, f3, _, _, _, rfl, s4.r, o3.stp s4, c4, KvsAt.up s4.kp.q kk3, fun r hr => (b3 r hr).mono (by omega)⟩
    | true =>
      refine iteT ?_
      refine evs_if (t := tyAny (regs.map tyS)) (tts_gt (m := 3) (by decide) rfl s4.g h0 s4.r) (fun D5 H5 s5 => evs_sub (t := tyS nm) (fun v H hv => ⟨_, List.mem_map.mpr ⟨nm, hnm, rfl⟩, hv⟩) ((Ev.at_ (ev_var (i := 3) rfl rfl) s5.g.dh).s s5.g s5.r)) (fun D5 H5 s5 => evs_pick (by rw [List.length_map]; omega) rfl (ev_var (i := 1) rfl ((tyNames regs).up (s4.kp.trans s5.kp).q y1)) s5.g h0 s5.r) _ fun v5 D5 H5 s5 ⟨t5, ht5, hv5⟩ => ?_
      obtain ⟨r5, hr5, rfl⟩ := List.mem_map.mp ht5
      have hv5 : v5 = .str r5 := hv5
      subst hv5
      have s45 := s4.trans s5
      have c5 := s5.l rd (.dK kv3) nrd True.intro c4
      have kv5 := KvsAt.up s45.kp.q kk3
      have one : ∀ D6, Ev (tLst (tCons (tTup (tCons (tVar 3) tNil)) tNil)) [some (.ref d.dl), some v1, some v2, some (.str nm), some (.ref rd), some (.str r5), x6] D6 (tyL (([.inr nm] : List Item).map tyItem)) := fun D6 => ev_lst (ts := [tyT [tyS nm]]) (ea_cons (ev_tup (ts := [tyS nm]) (ea_cons (ev_var (i := 3) rfl rfl) ea_nil)) ea_nil)
      have old : ∀ D6 H6, Stp d D0 H0 D5 H5 D6 H6 → EvAt (tDGet (tVar 4) (tVar 5)) [some (.ref d.dl), some v1, some v2, some (.str nm), some (.ref rd), some (.str r5), x6] D6 H6 (tyL ((f3 r5).map tyItem)) := fun D6 H6 s6 => get_locT (i := 4) (k := .inr r5) rfl (s6.l rd (.dK kv3) nrd True.intro c5) (KvsAt.up s6.kp.q kv5) (ev_var (i := 5) rfl rfl) s6.g.dh (has_held (f := fun r => tyL ((f3 r).map tyItem)) hr5)
      have l5 := (b3 r5 hr5).len
      refine st_dputS (σ := [some (.ref d.dl), some v1, some v2, some (.str nm), some (.ref rd), some (.str r5), x6]) (i := 4) (k := .inr r5) (t := tyRB regs (i + 1)) rfl nrd c5 (evs_if (tts_eq (m := 2) (by decide) rfl s5.g h0 s5.r) (fun D6 H6 s6 => evs_sub (t := tyL ((f3 r5).map tyItem ++ ([.inr nm] : List Item).map tyItem)) (fun v H hv => ⟨f3 r5 ++ [.inr nm], (b3 r5 hr5).app (.reg hnm), by rw [List.map_append]; exact hv⟩) ((ev_opA (old D6 H6 s6) (fun D7 H7 g7 => Ev.at_ (one D7) g7.dh) (rv_cat (by rw [List.length_map]; simp; omega))).s s6.g s6.r))
        (fun D6 H6 s6 => evs_sub (t := tyL (([.inr nm] : List Item).map tyItem ++ (f3 r5).map tyItem)) (fun v H hv => ⟨[.inr nm] ++ f3 r5, by have := (RowB.reg hnm).app (b3 r5 hr5); rw [Nat.add_comm] at this; exact this, by rw [List.map_append]; exact hv⟩) ((ev_opA (Ev.at_ (one D6) s6.g.dh) (fun D7 H7 g7 => old D7 H7 (s6.grow g7)) (rv_cat (by rw [List.length_map, List.length_map]; simp; omega))).s s6.g s6.r)))
        (fun D6 k6 => ev_var (i := 5) rfl rfl) (lenOf kv5) fun v6 D6 H6 s6 t6 c6 => ?_
      obtain ⟨f7, kv7, b7⟩ := rw_put (KvsAt.up s6.kp.q kv5) b3 (Nat.le_succ i) hr5 t6
      exact ⟨D6, kD3.trans (s45.trans s6).kp, c6.set s6.g hrd0 nf_dK, _, f7, _, _, _, rfl, s6.r.off ndl, (o3.stp (s45.trans s6)).put hrdH, c6.put, kv7, b7⟩
  · rintro s1 D3 H3 kD3 gH3 ⟨kv3, f3, x3, x5, x6, rfl, r3, o3, c3, kk3, b3⟩
    have y1 := (tyNames regs).up kD3.q w1
    have y2 := (tyNames ["a", "b"]).up kD3.q w2
    have b3' : ∀ r ∈ regs, RowB regs 2 (f3 r) := fun r hr => (b3 r hr).mono hz
    dsimp only
    refine st_for (D0 := D0) (H0 := H0) (xs := regs) (D := D3) tyS (fun i => RwI regs d D H v1 v2 rd (2 + i)) RwI.grow (evi_list (ev_var (t := tyNames regs) (σ := [some (.ref d.dl), some v1, some v2, x3, some (.ref rd), x5, x6]) (i := 1) rfl y1)).i gH3 (fun D4 H4 g4 => RwI.grow ⟨kv3, f3, x3, x5, x6, rfl, r3, o3, c3, kk3, b3'⟩ g4) ?_ ?_
    · rintro B kb i nm hi s1 D4 H4 x kD4 gH4 ⟨kv4, f4, x3, x5, x6, rfl, r4, o4, c4, kk4, b4⟩ tx
      have hnm := List.mem_of_getElem? hi
      have hil := (List.getElem?_eq_some_iff.mp hi).1
      have tx : x = .str nm := tx
      subst tx
      have z2 := (tyNames ["a", "b"]).up (kb.trans kD4).q y2
      show tSeq _ _ _ [some (.ref d.dl), some v1, some v2, some (.str nm), some (.ref rd), x5, x6] H4
      refine evs_pick (ts := txs.map tyS) (by decide) rfl (ev_op (ev_lst (ts := [tyS "", tyS ""]) (ea_cons ev_c (ea_cons ev_c ea_nil))) (ev_var (t := tyNames ["a", "b"]) (i := 2) rfl z2) (rv_cat (by decide))) gH4 h0 r4 _ fun v5 D5 H5 s5 ⟨t5, ht5, hv5⟩ => ?_
      obtain ⟨tx5, htx5, rfl⟩ := List.mem_map.mp ht5
      have hv5 : v5 = .str tx5 := hv5
      subst hv5
      have c5 := s5.l rd (.dK kv4) nrd True.intro c4
      have kv5 := KvsAt.up s5.kp.q kk4
      have one : ∀ D6, Ev (tLst (tCons (tVar 6) tNil)) [some (.ref d.dl), some v1, some v2, some (.str nm), some (.ref rd), x5, some (.str tx5)] D6 (tyL (([.inl tx5] : List Item).map tyItem)) := fun D6 => ev_lst (ts := [tyS tx5]) (ea_cons (ev_var (i := 6) rfl rfl) ea_nil)
      have old : ∀ D6 H6, Stp d D0 H0 D5 H5 D6 H6 → EvAt (tDGet (tVar 4) (tVar 3)) [some (.ref d.dl), some v1, some v2, some (.str nm), some (.ref rd), x5, some (.str tx5)] D6 H6 (tyL ((f4 nm).map tyItem)) := fun D6 H6 s6 => get_locT (i := 4) (k := .inr nm) rfl (s6.l rd (.dK kv4) nrd True.intro c5) (KvsAt.up s6.kp.q kv5) (ev_var (i := 3) rfl rfl) s6.g.dh (has_held (f := fun r => tyL ((f4 r).map tyItem)) hnm)
      have l5 := (b4 nm hnm).len
      refine st_dputS (σ := [some (.ref d.dl), some v1, some v2, some (.str nm), some (.ref rd), x5, some (.str tx5)]) (i := 4) (k := .inr nm) (t := tyRB regs (2 + (i + 1))) rfl nrd c5 (evs_if (tts_eq (m := 2) (by decide) rfl s5.g h0 s5.r)
        (fun D6 H6 s6 => evs_sub (t := tyL (([.inl tx5] : List Item).map tyItem ++ (f4 nm).map tyItem)) (fun v H hv => ⟨[.inl tx5] ++ f4 nm, ((RowB.txt htx5).app (b4 nm hnm)).mono (by omega), by rw [List.map_append]; exact hv⟩) ((ev_opA (Ev.at_ (one D6) s6.g.dh) (fun D7 H7 g7 => old D7 H7 (s6.grow g7)) (rv_cat (by rw [List.length_map, List.length_map]; simp; omega))).s s6.g s6.r))
        (fun D6 H6 s6 => evs_sub (t := tyL ((f4 nm).map tyItem ++ ([.inl tx5] : List Item).map tyItem)) (fun v H hv => ⟨f4 nm ++ [.inl tx5], ((b4 nm hnm).app (.txt htx5)).mono (by omega), by rw [List.map_append]; exact hv⟩) ((ev_opA (old D6 H6 s6) (fun D7 H7 g7 => Ev.at_ (one D7) g7.dh) (rv_cat (by rw [List.length_map]; simp; omega))).s s6.g s6.r)))
        (fun D6 k6 => ev_var (i := 3) rfl rfl) (lenOf kv5) fun v6 D6 H6 s6 t6 c6 => ?_
      obtain ⟨f7, kv7, b7⟩ := rw_put (KvsAt.up s6.kp.q kv5) b4 (by omega) hnm t6
      exact ⟨D6, kD4.trans (s5.trans s6).kp, c6.set s6.g hrd0 nf_dK, _, f7, _, _, _, rfl, s6.r.off ndl, (o4.stp (s5.trans s6)).put hrdH, c6.put, kv7, b7⟩
    · rintro s1 D4 H4 kD4 gH4 ⟨kv4, f4, x3, x5, x6, rfl, r4, o4, c4, kk4, b4⟩
      have z1 := (tyNames regs).up kD4.q y1
      obtain ⟨gO, kO⟩ := c4.own gH4 hrd0 (.inr True.intro)
      have tD : (tyD (kvL regs f4)).p (.ref rd) (upd D4 rd (.dK kv4)) := ⟨rd, kv4, rfl, .inl upd_same, KvsAt.up kO.q kk4⟩
      have z1' := (tyNames regs).up kO.q z1
      have rO := r4.own kO ndl
      have oO := o4.own (u := .dK kv4) hrdH
      have kAll := (kD1.trans (kD3.trans kD4)).trans kO
      dsimp only
      generalize upd D4 rd (.dK kv4) = D5 at gO kO tD z1' rO oO kAll
      have e1 : Ev (tVar 1) [some (.ref d.dl), some v1, some v2, x3, some (.ref rd), x5, x6] D5 (tyNames regs) := ev_var rfl z1'
      refine (dictD (K := K) (xs := regs) (key := fun r => .inr r) (out := fun r => tyRow (f4 r)) (Ev.at_ (ev_lcm tyS (fun r => tyT [tyS r, tyRow (f4 r)]) (evi_list e1).i (by omega) fun r hr D6 k6 x hx => lcel rfl (ev_tup (ts := [tyS r, tyRow (f4 r)]) (ea_cons (ev_var (i := 3) rfl hx) (ea_cons (ev_cb (ea_cons (ev_dget (k := .inr r) (ev_var (i := 4) rfl (Ty.up _ k6.q tD)) (ev_var (i := 3) rfl hx) (has_held (f := fun r => tyL ((f4 r).map tyItem)) hr)) ea_nil) rc_tupL) ea_nil)))) gO.dh) (inr_nd hnd)) _ fun v D6 H6 g6 tv6 => ?_
      exact q v D6 H6 (kAll.trans g6.d) (gO.trans g6) (rO.grow g6) (oO.grow g6) ⟨f4, fun r hr => (b4 r hr).mono (by omega), tv6⟩
end
end K02
set_option Elab.async false
set_option linter.all false
set_option maxRecDepth 100000
set_option maxHeartbeats 8000000
namespace K02
open PySem PySem.Spec PyProof.Rows L2 PySem.W
section
variable {P : Program} {w : World} {K : PySem.W.Frag} {mg : Str → Option Value} {base : Heap}
variable {σ : Sl} {D D' H H' D0 H0 : Hp} {te ta tb tk tv td : TE} {tt : TT} {t u z : Ty} {ts : List Ty}
def tyRowB (regs : List Str) : Ty := ⟨fun v H => ∃ row, RowB regs 4 row ∧ (tyRow row).p v H, fun k ⟨g, b, h⟩ => ⟨g, b, Ty.up _ k h⟩⟩
abbrev sp_lend : Sp := SpX (fun regs : List Str => [tyNames regs, tyNames ["a", "b"]]) tyRowB (fun regs => regs.length ≤ 2)
def LeI (regs : List Str) (d : Dw) (Di Hi : Hp) (v1 v2 : V) (z : Nat) (s : Sl) (D H : Hp) : Prop := ∃ (v3 : V) (x4 : Option V), s = [some (.ref d.dl), some v1, some v2, some v3, x4] ∧ Dr d D H ∧ Oth d Di Hi D H ∧ (tyRB regs z).p v3 D
theorem cal_lend (F : Fc K mg) : Cal P w K mg base 5 "_law_end" sp_lend := mk__law_end F (fun _ _ _ _ h => SpX.len (n := 2) (fun _ => rfl) h) fun f cdv A outer s H vs Q E hr h => by
  have nd := sc__law_end.nd
  have c__law_next := cal_next (P := P) (w := w) (base := base) F
  have c__law_pick := cal_pick (P := P) (w := w) (base := base) F
  obtain ⟨regs, d, D, D0, H0, ws, rfl, hz, g, h0, r, tv, q⟩ := h
  refine ⟨_, (pss_cons (ps_set (i := 3) nd rfl (.inl rfl) (pe_lst pa_nil))
    (pss_cons (ps_for PassesOwn.never rfl (k_pi_list (pv 1)) (pg_name (i := 4) nd rfl (.inl rfl)) (pss_one (ps_if (pt_cmpR op_gt (pe_cal c__law_next hr (by decide) (by rfl) (pa_cons (pv 0) (pa_cons pe_int pa_nil))) pe_int (nomark _)) (pss_one (ps_set (i := 3) nd rfl (.inl rfl) (pe_ifExp (pt_cmpR op_eq (pe_cal c__law_next hr (by decide) (by rfl) (pa_cons (pv 0) (pa_cons pe_int pa_nil))) pe_int (nomark _)) (pe_op op_cat (pv 3) (pe_lst (pa_cons (pe_tup (pa_cons (pv 4) pa_nil)) pa_nil))) (pe_op op_cat (pe_lst (pa_cons (pe_tup (pa_cons (pv 4) pa_nil)) pa_nil)) (pv 3))))) pss_nil)))
    (pss_one (ps_ret (pe_callTy k_tuple_of (by rfl) F.f_tuple bt_tuple (pa_cons (pe_op op_cat (pv 3) (pe_lst (pa_cons (pe_cal c__law_pick hr (by decide) (by rfl) (pa_cons (pv 0) (pa_cons (pe_op op_cat (pe_lst (pa_cons pe_str (pa_cons pe_str pa_nil))) (pv 2)) pa_nil))) pa_nil))) pa_nil)))))), ?_⟩
  obtain ⟨v1, v2, rfl, t1, t2⟩ := args2 tv
  refine sq_asg (t := tyL []) (ev_lst ea_nil) g.dh fun v3 D1 H1 g1 t3 => ?_
  have w1 := (tyNames regs).up g1.d.q t1
  have w2 := (tyNames ["a", "b"]).up g1.d.q t2
  have gB := g.trans g1
  refine st_for (D0 := D0) (H0 := H0) (xs := regs) (D := D1) tyS (fun i => LeI regs d D H v1 v2 i) ?_ (evi_list (ev_var (t := tyNames regs) (σ := [some (.ref d.dl), some v1, some v2, some v3, none]) (i := 1) rfl w1)).i gB (fun D3 H3 g3 => ⟨v3, none, rfl, (r.grow g1).grow g3, fun a y n f l => (l.grow f g1).grow f g3, [], ⟨Nat.le_refl _, fun i hi => by cases hi⟩, Ty.up _ g3.d.q t3⟩) ?_ ?_
  · rintro i s D1 H1 D2 H2 ⟨v3, x4, e, r, o, t3⟩ g
    exact ⟨v3, x4, e, r.grow g, o.grow g, Ty.up _ g.d.q t3⟩
  · rintro B kb i nm hi s1 D3 H3 x kD3 gH3 ⟨v3, x4, rfl, r3, o3, row, b3, tr3⟩ tx
    have hnm := List.mem_of_getElem? hi
    have hil := (List.getElem?_eq_some_iff.mp hi).1
    have l3 := b3.len
    have tx : x = .str nm := tx
    subst tx
    show tIfS _ _ _ _ [some (.ref d.dl), some v1, some v2, some v3, some (.str nm)] H3
    refine tts_gt (m := 5) (by decide) rfl gH3 h0 r3 _ fun b D4 H4 s4 => ?_
    cases b with
    | false => exact iteF ⟨D4, kD3.trans s4.kp, s4.g, v3, _, rfl, s4.r, o3.stp s4, row, b3.mono (Nat.le_succ _), Ty.up _ s4.kp.q tr3⟩
    | true =>
      refine iteT ?_
      have one : ∀ D6, Ev (tLst (tCons (tTup (tCons (tVar 4) tNil)) tNil)) [some (.ref d.dl), some v1, some v2, some v3, some (.str nm)] D6 (tyL (([.inr nm] : List Item).map tyItem)) := fun D6 => ev_lst (ts := [tyT [tyS nm]]) (ea_cons (ev_tup (ts := [tyS nm]) (ea_cons (ev_var (i := 4) rfl rfl) ea_nil)) ea_nil)
      have old : ∀ D6, Kp D4 D6 → Ev (tVar 3) [some (.ref d.dl), some v1, some v2, some v3, some (.str nm)] D6 (tyL (row.map tyItem)) := fun D6 k6 => ev_var rfl (Ty.up _ (s4.kp.trans k6).q tr3)
      refine evs_if (t := tyRB regs (i + 1)) (tts_eq (m := 2) (by decide) rfl s4.g h0 s4.r) (fun D6 H6 s6 => evs_sub (t := tyL (row.map tyItem ++ ([.inr nm] : List Item).map tyItem)) (fun v H hv => ⟨row ++ [.inr nm], b3.app (.reg hnm), by rw [List.map_append]; exact hv⟩) ((Ev.at_ (ev_op (old D6 s6.kp) (one D6) (rv_cat (by rw [List.length_map]; simp; omega))) s6.g.dh).s s6.g s6.r))
        (fun D6 H6 s6 => evs_sub (t := tyL (([.inr nm] : List Item).map tyItem ++ row.map tyItem)) (fun v H hv => ⟨[.inr nm] ++ row, by have := (RowB.reg hnm).app b3; rw [Nat.add_comm] at this; exact this, by rw [List.map_append]; exact hv⟩) ((Ev.at_ (ev_op (one D6) (old D6 s6.kp) (rv_cat (by rw [List.length_map, List.length_map]; simp; omega))) s6.g.dh).s s6.g s6.r)) _ fun v5 D5 H5 s5 t5 => ?_
      exact ⟨D5, kD3.trans (s4.trans s5).kp, s5.g, v5, _, rfl, s5.r, o3.stp (s4.trans s5), t5⟩
  · rintro s1 D3 H3 kD3 gH3 ⟨v3, x4, rfl, r3, o3, row, b3, tr3⟩
    have y2 := (tyNames ["a", "b"]).up kD3.q w2
    have l3 := b3.len
    refine ⟨v3, rfl, ?_⟩
    refine evs_pick (ts := txs.map tyS) (i := 0) (σ := [some (.ref d.dl), some v1, some v2, some v3, x4]) (by decide) rfl (ev_op (ev_lst (ts := [tyS "", tyS ""]) (ea_cons ev_c (ea_cons ev_c ea_nil))) (ev_var (t := tyNames ["a", "b"]) (i := 2) rfl y2) (rv_cat (by decide))) gH3 h0 r3 _ fun v5 D5 H5 s5 ⟨t5, ht5, hv5⟩ => ?_
    obtain ⟨tx5, htx5, rfl⟩ := List.mem_map.mp ht5
    have hv5 : v5 = .str tx5 := hv5
    subst hv5
    refine ⟨show (1 : Nat) ≤ sizeLine by decide, fun l hl => ?_⟩
    have g6 := (Grow.refl s5.g.dh).add (u := .lst [.str tx5]) hl (.inl True.intro)
    have kn := g6.d
    refine rv_cat (ts := row.map tyItem) (us := ([.inl tx5] : List Item).map tyItem) (by rw [List.length_map]; simp; omega) v3 (.ref l) _ _ g6.dh (Ty.up _ (s5.kp.trans kn).q tr3) ⟨l, [.str tx5], rfl, upd_same, .cons rfl .nil⟩ _ fun v7 D7 H7 g7 t7 => ?_
    rw [← List.map_append] at t7
    refine rc_tupL [v7] D7 H7 g7.dh (.cons t7 .nil) _ fun v8 D8 H8 g8 t8 => ?_
    have s8 := s5.grow (g6.trans (g7.trans g8))
    exact q v8 D8 H8 (g1.d.trans (kD3.trans s8.kp)) s8.g s8.r (o3.stp s8) ⟨_, (b3.app (.txt htx5)).mono (by omega), t8⟩
end
end K02
set_option Elab.async false
set_option linter.all false
set_option maxRecDepth 100000
set_option maxHeartbeats 8000000
namespace K02
open PySem PySem.Spec PyProof.Rows L2 PySem.W
section
variable {P : Program} {w : World} {K : PySem.W.Frag} {mg : Str → Option Value} {base : Heap}
variable {σ : Sl} {D D' H H' D0 H0 : Hp} {te ta tb tk tv td : TE} {tt : TT} {t u z : Ty} {ts : List Ty}
/-- a list comprehension whose elements draw -/
theorem lcS {α : Type} {d : Dw} {wi : TI} {j : Nat} {vs : List Nat} {xs : List α} (τ : α → Ty) (out : α → Ty) (hi : EvIAt wi σ D H (xs.map τ)) (g : Grow D0 H0 D H) (r : Dr d D H) (hz : xs.length ≤ 100000) (hw : ∀ x, wipe ((wipe σ vs).set j (some x)) vs = wipe σ vs)
    (hel : ∀ a ∈ xs, ∀ D1 H1, Kp D D1 → Grow D0 H0 D1 H1 → Dr d D1 H1 → ∀ x, (τ a).p x D1 → EvS d D0 H0 te ((wipe σ vs).set j (some x)) D1 H1 (out a)) : EvS d D0 H0 (tLc wi (gName j) tYes te vs) σ D H (tyL (xs.map out)) := fun Q q => hi _ fun J D2 H2 g2 w Dl hD => by
  have hDH : H Dl = none := g2.h.dom hD
  have hD0 : H0 Dl = none := g.h.dom hDH
  have ndl : Dl ≠ d.dl := fun e => by
    obtain ⟨_, c, _, l⟩ := r.grow g2
    have := l.h
    rw [← e, hD] at this
    cases this
  have gg := g.trans g2
  have o2 : Oth d D H D2 H2 := fun a y n f l => l.grow f g2
  refine ⟨fun i m H3 => m = xs.length - i ∧ i ≤ xs.length ∧ ∃ D3 acc, Kp D2 D3 ∧ Grow D0 H0 D3 H3 ∧ Dr d D3 H3 ∧ Oth d D H D3 H3 ∧ Loc Dl (.lst acc) D3 H3 ∧ TysAt ((xs.take i).map out) acc D3, ⟨xs.length, by simp, Nat.zero_le _, D2, [], Kp.refl _, gg.mut hD0 (gg.dh.dom hD) nf_lst, (r.grow g2).off (fun e => ndl e.symm), o2.put hDH, Loc.new gg.dh hD, .nil⟩, ?_⟩
  rintro i m H3 ⟨rfl, hi3, D3, acc, k3, g3, r3, o3, c3, t3⟩
  have hacc : acc.length ≤ xs.length := by
    rw [pr_len t3, List.length_map, List.length_take]
    omega
  by_cases hlt : i < xs.length
  · have hg : xs[i]? = some xs[i] := by simp [hlt]
    have hm : (xs.map τ)[i]? = some (τ xs[i]) := by rw [List.getElem?_map, hg]; rfl
    have tk := take_one hg
    refine .inr ⟨w.goes i H3 (k3.trans g3.dh) (by rw [List.length_map]; exact hlt), fun H4 => ∃ D4 acc, Kp D2 D4 ∧ Grow D0 H0 D4 H4 ∧ Dr d D4 H4 ∧ Oth d D H D4 H4 ∧ Loc Dl (.lst acc) D4 H4 ∧ TysAt ((xs.take (i + 1)).map out) acc D4,
      fun H4 ⟨D4, acc4, r⟩ => ⟨xs.length - (i + 1), by omega, rfl, hlt, D4, acc4, r⟩, fun x H4 y => ?_⟩
    obtain ⟨D4, g4, tx⟩ := w.yld i _ D3 H3 x H4 k3 g3.dh hm y
    refine ⟨hw x, ?_⟩
    refine iteT (B := ∃ D4 acc, Kp D2 D4 ∧ Grow D0 H0 D4 H4 ∧ Dr d D4 H4 ∧ Oth d D H D4 H4 ∧ Loc Dl (.lst acc) D4 H4 ∧ TysAt ((xs.take (i + 1)).map out) acc D4) ?_
    refine hel xs[i] (List.mem_of_getElem? hg) D4 H4 ((g2.d.trans k3).trans g4.d) (g3.trans g4) (r3.grow g4) x tx _ fun v D5 H5 s5 tv => ?_
    have c5 := s5.l Dl (.lst acc) ndl True.intro (c3.grow (x := .lst acc) True.intro g4)
    refine ⟨acc, c5.h, Nat.lt_of_le_of_lt (Nat.le_trans hacc hz) (by decide), D5, acc ++ [v], k3.trans (g4.d.trans s5.kp), c5.set s5.g hD0 nf_lst, s5.r.off (fun e => ndl e.symm), (Oth.stp (o3.grow g4) s5).put hDH, c5.put, ?_⟩
    rw [tk, List.map_append]
    exact pr_app (TysAt.up (g4.d.trans s5.kp).q t3) (.cons tv .nil)
  · have e : i = xs.length := by omega
    subst e
    rw [List.take_length] at t3
    have st := w.stops H3 (k3.trans g3.dh)
    rw [List.length_map] at st
    obtain ⟨g5, k5⟩ := c3.own g3 hD0 (.inl True.intro)
    exact .inl ⟨st, q (.ref Dl) _ H3 ⟨(g2.d.trans k3).trans k5, g5, r3.own k5 (fun e => ndl e.symm), o3.own hDH⟩ ⟨Dl, acc, rfl, upd_same, TysAt.up k5.q t3⟩⟩
/-! ### the drawn program -/
structure PgB (p : Pg) : Prop where
  n : p.n = 1 ∨ p.n = 2
  ls : p.ls = [97, 98] ∨ p.ls = [98]
  regs : p.regs = [] ∨ p.regs = [("x" : Str)] ∨ p.regs = [("x" : Str), ("y" : Str)]
  fst : ∀ r ∈ p.regs, p.fst r ∈ txs
  goal : ∀ x ∈ due p, 0 ≤ p.goal x.1 x.2 ∧ p.goal x.1 x.2 < p.n
  row : ∀ x ∈ due p, ∀ r ∈ p.regs, RowB p.regs 4 (p.row x.1 x.2 r)
  en : ∀ s ∈ ens p, RowB p.regs 4 (enr p s)
/-- what is told: steps may change still -/
structure Told (p : Pg) (T sa : Addr) (v : V) (D H H0 : Hp) (d : Dw) : Prop where
  e : v = .ref T
  tl : ∃ v4 v5 v7, D T = some (.tup [.str (txt p.ls), .int p.n, v4, v5, .ref sa, v7]) ∧ (tyNames p.regs).p v4 D ∧ (tyHeld p.regs p.fst).p v5 D ∧ (tyEnds p).p v7 D
  sd : ∃ kvs, Loc sa (.dT kvs) D H ∧ KvsAt ((due p).map fun x => (dkey x, tyStep p.regs (p.goal x.1 x.2, p.row x.1 x.2))) kvs D
  new : H0 sa = none
  ne : sa ≠ d.dl
def sp_program : Sp := fun vs H Q _ => ∃ (d : Dw) (D D0 H0 : Hp) (v1 : V), vs = [.ref d.dl, v1] ∧ Grow D0 H0 D H ∧ H0 d.dl = none ∧ Dr d D H ∧ (tyNames ["a", "b"]).p v1 D ∧
  ∀ v D' H' p T st, Kp D D' → Grow D0 H0 D' H' → Dr d D' H' → PgB p → Told p T st v D' H' H0 d → Q v H'
theorem evs_tup2 {d : Dw} (ea : EvS d D0 H0 ta σ D H t) (eb : ∀ D1 H1, Stp d D0 H0 D H D1 H1 → EvS d D0 H0 tb σ D1 H1 u) : EvS d D0 H0 (tTup (tCons ta (tCons tb tNil))) σ D H (tyT [t, u]) := fun Q q =>
  ea _ fun x D2 H2 s2 tx => eb D2 H2 s2 _ fun y D3 H3 s3 ty => ⟨show (2 : Nat) ≤ sizeLine by decide, fun p hp => by
    have g4 := (Grow.refl s3.g.dh).add (u := .tup [x, y]) hp (.inl True.intro)
    exact q (.ref p) _ _ ((s2.trans s3).grow g4) ⟨p, _, rfl, upd_same, .cons (t.up (s3.kp.trans g4.d).q tx) (.cons (u.up g4.d.q ty) .nil)⟩⟩
theorem evs_rows {d : Dw} {i : Nat} {regs : List Str} {tc : TE} (hz : regs.length ≤ 2) (hn : regs.Nodup) (hl : σ[i]? = some (some (.ref d.dl))) (e : Ev te σ D (tyNames regs)) (e2 : Ev tc σ D (tyNames ["a", "b"])) (g : Grow D0 H0 D H) (h0 : H0 d.dl = none) (r : Dr d D H) : EvS d D0 H0 (tCall sp_rows [] E0 (tCons (tVar i) (tCons te (tCons tc tNil)))) σ D H (tyRowsB regs) :=
  (ev_callX (A := fun regs : List Str => [tyNames regs, tyNames ["a", "b"]]) (B := tyRowsB) (C := fun regs => regs.length ≤ 2 ∧ regs.Nodup) regs ⟨hz, hn⟩ hl (ea_cons e (ea_cons e2 ea_nil)) g h0 r).s
theorem evs_lend {d : Dw} {i : Nat} {regs : List Str} {tc : TE} (hz : regs.length ≤ 2) (hl : σ[i]? = some (some (.ref d.dl))) (e : Ev te σ D (tyNames regs)) (e2 : Ev tc σ D (tyNames ["a", "b"])) (g : Grow D0 H0 D H) (h0 : H0 d.dl = none) (r : Dr d D H) : EvS d D0 H0 (tCall sp_lend [] E0 (tCons (tVar i) (tCons te (tCons tc tNil)))) σ D H (tyRowB regs) :=
  (ev_callX (A := fun regs : List Str => [tyNames regs, tyNames ["a", "b"]]) (B := tyRowB) (C := fun regs => regs.length ≤ 2) regs hz hl (ea_cons e (ea_cons e2 ea_nil)) g h0 r).s
/-- d[k] = v of a local dict with tuple keys, k new, after an evaluation that draws -/
theorem st_dputTS {E : Ends} {d : Dw} {i : Nat} {a : Addr} {acc : List (List Key × V)} {k : List Key} (hd : σ[i]? = some (some (.ref a))) (ne : a ≠ d.dl) (c : Loc a (.dT acc) D H) (ev : EvS d D0 H0 tv σ D H t) (ek : ∀ D1, Kp D D1 → Ev tk σ D1 (tyKey k)) (z : acc.length < 100000) (no : k ∉ acc.map (·.1))
    (q : ∀ v D1 H1, Stp d D0 H0 D H D1 H1 → t.p v D1 → Loc a (.dT acc) D1 H1 → E.nx σ (upd H1 a (.dT (acc ++ [(k, v)])))) : sDPut (tVar i) tk tv E σ H :=
  ev _ fun v D1 H1 s1 hv => ⟨.ref a, hd, (ek D1 s1.kp).use (s1.g.dh) fun y D2 H2 g2 hy => by
    obtain ⟨b, rfl, hb⟩ := key_at hy
    have s2 := s1.grow g2
    have c2 := s2.l a (.dT acc) ne True.intro c
    have hp : putK acc k v = acc ++ [(k, v)] := putK_new v (valV_no no)
    refine ⟨a, _, rfl, DPut.t c2.h (g2.dh.q.fx (u := .tup _) True.intro hb) (Nat.lt_of_lt_of_le z (by decide)), ?_⟩
    rw [hp]
    exact q v D2 H2 s2 (t.up g2.d.q hv) c2⟩
end
/-! ### a program under way: the steps of ds, the ends of es -/
structure PrI (p : Pg) (d : Dw) (Di Hi : Hp) (st ed : Addr) (ds : List (Int × Nat)) (es : List Int) (kS : List (List Key × V)) (kE : List (Key × V)) (D H : Hp) : Prop where
  r : Dr d D H
  o : Oth d Di Hi D H
  s : Loc st (.dT kS) D H
  sk : KvsAt (ds.map fun x => (dkey x, tyStep p.regs (p.goal x.1 x.2, p.row x.1 x.2))) kS D
  e : Loc ed (.dK kE) D H
  ek : KvsAt (es.map fun s => ((Sum.inl s : Key), tyRow (enr p s))) kE D
  gl : ∀ x ∈ ds, (0 ≤ p.goal x.1 x.2 ∧ p.goal x.1 x.2 < p.n) ∧ ∀ r ∈ p.regs, RowB p.regs 4 (p.row x.1 x.2 r)
  en : ∀ s ∈ es, (p.en s).isSome = true ∧ RowB p.regs 4 (enr p s)
  no : ∀ s, s ∉ es → p.en s = none
theorem PrI.grow {p : Pg} {d : Dw} {Di Hi : Hp} {st ed : Addr} {ds : List (Int × Nat)} {es : List Int} {kS : List (List Key × V)} {kE : List (Key × V)} {D1 H1 D2 H2 : Hp} (x : PrI p d Di Hi st ed ds es kS kE D1 H1) (g : Grow D1 H1 D2 H2) : PrI p d Di Hi st ed ds es kS kE D2 H2 :=
  ⟨x.r.grow g, x.o.grow g, x.s.grow (x := .dT kS) True.intro g, KvsAt.up g.d.q x.sk, x.e.grow (x := .dK kE) True.intro g, KvsAt.up g.d.q x.ek, x.gl, x.en, x.no⟩
theorem PrI.stp {p : Pg} {d : Dw} {Di Hi D0 H0 : Hp} {st ed : Addr} {ds : List (Int × Nat)} {es : List Int} {kS : List (List Key × V)} {kE : List (Key × V)} {D1 H1 D2 H2 : Hp} (x : PrI p d Di Hi st ed ds es kS kE D1 H1) (y : Stp d D0 H0 D1 H1 D2 H2) (n1 : st ≠ d.dl) (n2 : ed ≠ d.dl) : PrI p d Di Hi st ed ds es kS kE D2 H2 :=
  ⟨y.r, x.o.stp y, y.l st (.dT kS) n1 True.intro x.s, KvsAt.up y.kp.q x.sk, y.l ed (.dK kE) n2 True.intro x.e, KvsAt.up y.kp.q x.ek, x.gl, x.en, x.no⟩
/-- a step more -/
def addStep (p : Pg) (x : Int × Nat) (g : Int) (row : Str → List Item) : Pg := { p with goal := fun s c => if (s, c) = x then g else p.goal s c, row := fun s c => if (s, c) = x then row else p.row s c }
def addEnd (p : Pg) (s : Int) (row : List Item) : Pg := { p with en := fun t => if t = s then some row else p.en t }
theorem addStep_old {p : Pg} {x y : Int × Nat} {g : Int} {row : Str → List Item} (h : y ≠ x) : (addStep p x g row).goal y.1 y.2 = p.goal y.1 y.2 ∧ (addStep p x g row).row y.1 y.2 = p.row y.1 y.2 := ⟨if_neg h, if_neg h⟩
theorem addStep_new {p : Pg} {x : Int × Nat} {g : Int} {row : Str → List Item} : (addStep p x g row).goal x.1 x.2 = g ∧ (addStep p x g row).row x.1 x.2 = row := ⟨if_pos rfl, if_pos rfl⟩
theorem PrI.step {p : Pg} {d : Dw} {Di Hi : Hp} {st ed : Addr} {ds : List (Int × Nat)} {es : List Int} {kS : List (List Key × V)} {kE : List (Key × V)} {D H : Hp} {x : Int × Nat} {v : V} (y : PrI p d Di Hi st ed ds es kS kE D H) (hx : x ∉ ds) (hv : (tyT [tyRg p.n, tyRowsB p.regs]).p v D) (n1 : d.dl ≠ st) (n2 : ed ≠ st) (n3 : Hi st = none) :
    ∃ g row, PrI (addStep p x g row) d Di Hi st ed (ds ++ [x]) es (kS ++ [(dkey x, v)]) kE D (upd H st (.dT (kS ++ [(dkey x, v)]))) := by
  obtain ⟨a, vs, rfl, ha, hvs⟩ := hv
  obtain ⟨w0, w1, rfl, ⟨gi, e0, h0, h1⟩, row, hrow, tr⟩ := args2 hvs
  subst e0
  have old : ∀ z ∈ ds, (addStep p x gi row).goal z.1 z.2 = p.goal z.1 z.2 ∧ (addStep p x gi row).row z.1 z.2 = p.row z.1 z.2 := fun z hz => addStep_old fun e => hx (by rw [← e]; exact hz)
  refine ⟨gi, row, y.r.off n1, y.o.put n3, y.s.put, ?_, y.e.off n2, y.ek, fun z hz => ?_, y.en, y.no⟩
  · rw [List.map_append]
    have e1 : (ds.map fun z => (dkey z, tyStep (addStep p x gi row).regs ((addStep p x gi row).goal z.1 z.2, (addStep p x gi row).row z.1 z.2))) = ds.map fun z => (dkey z, tyStep p.regs (p.goal z.1 z.2, p.row z.1 z.2)) := List.map_congr_left fun z hz => by
      rw [(old z hz).1, (old z hz).2]
      rfl
    rw [e1]
    refine pr_app y.sk (.cons ⟨rfl, ?_⟩ .nil)
    show Ty.p (tyStep p.regs ((addStep p x gi row).goal x.1 x.2, (addStep p x gi row).row x.1 x.2)) _ D
    rw [addStep_new.1, addStep_new.2]
    exact ⟨a, _, rfl, ha, .cons rfl (.cons tr .nil)⟩
  · rcases List.mem_append.mp hz with hz | hz
    · rw [(old z hz).1, (old z hz).2]
      exact y.gl z hz
    · rw [List.mem_singleton.mp hz, addStep_new.1, addStep_new.2]
      exact ⟨⟨h0, h1⟩, hrow⟩
theorem PrI.fin {p : Pg} {d : Dw} {Di Hi : Hp} {st ed : Addr} {ds : List (Int × Nat)} {es : List Int} {kS : List (List Key × V)} {kE : List (Key × V)} {D H : Hp} {s : Int} {v : V} (y : PrI p d Di Hi st ed ds es kS kE D H) (hs : s ∉ es) (hv : (tyRowB p.regs).p v D) (n1 : d.dl ≠ ed) (n2 : st ≠ ed) (n3 : Hi ed = none) :
    ∃ row, PrI (addEnd p s row) d Di Hi st ed ds (es ++ [s]) kS (kE ++ [(.inl s, v)]) D (upd H ed (.dK (kE ++ [(.inl s, v)]))) := by
  obtain ⟨row, hrow, tr⟩ := hv
  have old : ∀ z ∈ es, (addEnd p s row).en z = p.en z := fun z hz => if_neg fun e => hs (by rw [← e]; exact hz)
  have new : (addEnd p s row).en s = some row := if_pos rfl
  have oldr : ∀ z ∈ es, enr (addEnd p s row) z = enr p z := fun z hz => by unfold enr; rw [old z hz]
  have newr : enr (addEnd p s row) s = row := by unfold enr; rw [new]; rfl
  refine ⟨row, y.r.off n1, y.o.put n3, y.s.off n2, y.sk, y.e.put, ?_, y.gl, fun z hz => ?_, fun z hz => ?_⟩
  · rw [List.map_append]
    have e1 : (es.map fun z => ((Sum.inl z : Key), tyRow (enr (addEnd p s row) z))) = es.map fun z => ((Sum.inl z : Key), tyRow (enr p z)) := List.map_congr_left fun z hz => by rw [oldr z hz]
    rw [e1]
    refine pr_app y.ek (.cons ⟨rfl, ?_⟩ .nil)
    show Ty.p (tyRow (enr (addEnd p s row) s)) v D
    rw [newr]
    exact tr
  · rcases List.mem_append.mp hz with hz | hz
    · rw [old z hz, oldr z hz]
      exact y.en z hz
    · rw [List.mem_singleton.mp hz, new, newr]
      exact ⟨rfl, hrow⟩
  · have h1 : z ∉ es := fun h => hz (List.mem_append_left _ h)
    have h2 : z ≠ s := fun h => hz (List.mem_append_right _ (by rw [h]; exact List.mem_singleton.mpr rfl))
    show (if z = s then some row else p.en z) = none
    rw [if_neg h2]
    exact y.no z h1
end K02
set_option Elab.async false
set_option linter.all false
set_option maxRecDepth 100000
set_option maxHeartbeats 8000000
namespace K02
open PySem PySem.Spec PyProof.Rows L2 PySem.W
section
variable {P : Program} {w : World} {K : PySem.W.Frag} {mg : Str → Option Value} {base : Heap}
variable {σ : Sl} {D D' H H' D0 H0 : Hp} {te ta tb tk tv td : TE} {tt : TT} {t u z : Ty} {ts : List Ty}
theorem dictS {α : Type} {d : Dw} {key : α → Key} {out : α → Ty} {xs : List α} (e : EvS d D0 H0 te σ D H (tyL (xs.map fun a => tyT [tyV (kV (key a)), out a]))) (nd : (xs.map key).Nodup) : EvS d D0 H0 (tCB (rDictP K) (tCons te tNil)) σ D H (tyD (xs.map fun a => (key a, out a))) := fun Q q => e _ fun v D1 H1 s1 tv =>
  dictD (K := K) (te := fun _ H Q => Q v H) (σ := σ) (D := D1) (H := H1) (key := key) (out := out) (xs := xs) (fun Q q => q v D1 H1 (Grow.refl s1.g.dh) tv) nd Q fun v2 D2 H2 g2 t2 => q v2 D2 H2 (s1.grow g2) t2
theorem any_fst {L : List Str} : ∀ {xs : List Str} {kvs : List (Key × V)}, xs.Nodup → KvsAt (xs.map fun r => ((Sum.inr r : Key), tyAny (L.map tyS))) kvs D → ∃ f : Str → Str, (∀ r ∈ xs, f r ∈ L) ∧ KvsAt (xs.map fun r => ((Sum.inr r : Key), tyS (f r))) kvs D
  | [], _, _, h => by
    cases h
    exact ⟨fun _ => "", fun r hr => (by cases hr), .nil⟩
  | a :: r, _, nd, h => by
    rw [List.map_cons] at h
    cases h with
    | @cons kv _ kvs2 _ h1 h2 =>
      obtain ⟨na, nr⟩ := List.nodup_cons.mp nd
      obtain ⟨f, hf, kf⟩ := any_fst nr h2
      obtain ⟨e1, t, ht, e2⟩ := h1
      obtain ⟨s, hs, rfl⟩ := List.mem_map.mp ht
      refine ⟨fun q => if q = a then s else f q, fun q hq => ?_, ?_⟩
      · show (if q = a then s else f q) ∈ L
        by_cases c : q = a
        · rw [if_pos c]
          exact hs
        · rw [if_neg c]
          rcases List.mem_cons.mp hq with hq | hq
          · exact absurd hq c
          · exact hf q hq
      · rw [List.map_cons]
        refine .cons ⟨e1, ?_⟩ ?_
        · show Ty.p (tyS (if a = a then s else f a)) kv.2 D
          rw [if_pos rfl]
          exact e2
        · have : (r.map fun q => ((Sum.inr q : Key), tyS (if q = a then s else f q))) = r.map fun q => ((Sum.inr q : Key), tyS (f q)) := List.map_congr_left fun q hq => by rw [if_neg fun e => na (by rw [← e]; exact hq)]
          rw [this]
          exact kf
def dueL (ls : List Nat) (l : List Int) : List (Int × Nat) := l.flatMap fun s => ls.map fun c => (s, c)
theorem sts_succ (i : Nat) : sts (i + 1) = sts i ++ [(i : Int)] := by
  unfold sts
  rw [List.range_succ, List.map_append]
  rfl
theorem dueL_mem {ls : List Nat} {l : List Int} {x : Int × Nat} : x ∈ dueL ls l → x.1 ∈ l := fun h => by
  obtain ⟨s, hs, hx⟩ := List.mem_flatMap.mp h
  obtain ⟨c, _, rfl⟩ := List.mem_map.mp hx
  exact hs
def PoI (ls : List Nat) (n : Nat) (regs : List Str) (fst : Str → Str) (d : Dw) (Di Hi : Hp) (v1 : V) (l2 fd st ed : Addr) (i : Nat) (s : Sl) (D H : Hp) : Prop := ∃ (p : Pg) (kS : List (List Key × V)) (kE : List (Key × V)) (x8 x9 : Option V), s = [some (.ref d.dl), some v1, some (.str (txt ls)), some (.int n), some (.ref l2), some (.ref fd), some (.ref st), some (.ref ed), x8, x9, none] ∧
  (p.ls = ls ∧ p.n = n ∧ p.regs = regs ∧ p.fst = fst) ∧ PrI p d Di Hi st ed (dueL ls (sts i)) ((sts i).filter fun s => (p.en s).isSome) kS kE D H
def PjI (ls : List Nat) (n : Nat) (regs : List Str) (fst : Str → Str) (d : Dw) (Di Hi : Hp) (v1 : V) (l2 fd st ed : Addr) (i j : Nat) (s : Sl) (D H : Hp) : Prop := ∃ (p : Pg) (kS : List (List Key × V)) (kE : List (Key × V)) (x9 : Option V), s = [some (.ref d.dl), some v1, some (.str (txt ls)), some (.int n), some (.ref l2), some (.ref fd), some (.ref st), some (.ref ed), some (.int i), x9, none] ∧
  (p.ls = ls ∧ p.n = n ∧ p.regs = regs ∧ p.fst = fst) ∧ PrI p d Di Hi st ed (dueL ls (sts i) ++ (ls.take j).map fun c => ((i : Int), c)) ((sts i).filter fun s => (p.en s).isSome) kS kE D H
theorem cal_program (F : Fc K mg) : Cal P w K mg base 6 "_law_program" sp_program := mk__law_program F (fun vs H Q E h => by obtain ⟨d, _, _, _, v1, rfl, _⟩ := h; rfl) fun f cdv A outer s H vs Q E hr h => by
  have nd := sc__law_program.nd
  have hu := Nat.lt_of_le_of_lt (Nat.add_le_add_left (by decide : 1 ≤ 64) _) hr.units
  have c__law_next := cal_next (P := P) (w := w) (base := base) F
  have c__law_pick := cal_pick (P := P) (w := w) (base := base) F
  have c__law_rows := cal_rows (P := P) (w := w) (base := base) F
  have c__law_end := cal_lend (P := P) (w := w) (base := base) F
  obtain ⟨d, D, D0, H0, v1, rfl, g, h0, r, t1, q⟩ := h
  refine ⟨_, (pss_cons (ps_par (i := 2) (j := 3) rfl nd rfl rfl (by decide) rfl rfl (pa_cons (pe_cal c__law_pick hr (by decide) (by rfl) (pa_cons (pv 0) (pa_cons (pe_lst (pa_cons pe_str (pa_cons pe_str (pa_cons pe_str (pa_cons pe_str pa_nil))))) pa_nil))) (pa_cons (pe_op op_add pe_int (pe_cal c__law_next hr (by decide) (by rfl) (pa_cons (pv 0) (pa_cons pe_int pa_nil)))) pa_nil)) rfl)
    (pss_cons (ps_set (i := 4) nd rfl (.inl rfl) (pe_slice sl_list (pe_lst (pa_cons pe_str (pa_cons pe_str pa_nil))) po_none (po_some (pe_cal c__law_pick hr (by decide) (by rfl) (pa_cons (pv 0) (pa_cons (pe_lst (pa_cons pe_int (pa_cons pe_int (pa_cons pe_int (pa_cons pe_int (pa_cons pe_int pa_nil)))))) pa_nil))))))
    (pss_cons (ps_set (i := 5) nd rfl (.inl rfl) (pe_callTy (k_dictP rfl) (by rfl) F.f_dict bt_dict (pa_cons (pe_lc (own := [("_law_name", 10)]) rfl nd (k_pi_list (pv 4)) (blkOk_by (N := n__law_program) (sc := defScope s__law_program) (by decide +kernel)) (fun _ _ _ _ _ => (pg_name (i := 10) nd rfl (.inl rfl))) (fun _ _ _ _ _ => pts_nil) (fun _ _ _ _ _ => (pe_tup (pa_cons (pv 10) (pa_cons (pe_cal c__law_pick hr (by decide) (by rfl) (pa_cons (pv 0) (pa_cons (pe_lst (pa_cons pe_str (pa_cons pe_str (pa_cons pe_str pa_nil)))) pa_nil))) pa_nil))))) pa_nil)))
    (pss_cons (ps_par (i := 6) (j := 7) rfl nd rfl rfl (by decide) rfl rfl (pa_cons pe_dnewT (pa_cons pe_dnewK pa_nil)) rfl)
    (pss_cons (ps_for PassesOwn.never rfl (pi_range1 (by rfl) F.f_range (pa_cons (pv 3) pa_nil)) (pg_name (i := 8) nd rfl (.inl rfl)) (pss_cons (ps_for PassesOwn.never rfl (pi_str (pv 2)) (pg_name (i := 9) nd rfl (.inl rfl)) (pss_one (ps_dput hu (pv 6) (pe_tup (pa_cons (pv 8) (pa_cons (pv 9) pa_nil))) (pe_tup (pa_cons (pe_cal c__law_next hr (by decide) (by rfl) (pa_cons (pv 0) (pa_cons (pv 3) pa_nil))) (pa_cons (pe_cal c__law_rows hr (by decide) (by rfl) (pa_cons (pv 0) (pa_cons (pv 4) (pa_cons (pv 1) pa_nil)))) pa_nil))) rfl)))
      (pss_one (ps_if (pt_cmpR op_gt (pe_cal c__law_next hr (by decide) (by rfl) (pa_cons (pv 0) (pa_cons pe_int pa_nil))) pe_int (nomark _)) (pss_one (ps_dput hu (pv 7) (pv 8) (pe_cal c__law_end hr (by decide) (by rfl) (pa_cons (pv 0) (pa_cons (pv 4) (pa_cons (pv 1) pa_nil)))) rfl)) pss_nil))))
    (pss_one (ps_ret (pe_tup (pa_cons (pv 2) (pa_cons (pv 3) (pa_cons (pv 4) (pa_cons (pv 5) (pa_cons (pv 6) (pa_cons (pv 7) pa_nil)))))))))))))), ?_⟩
  refine evs_pick (ts := (["ab", "ab", "ab", "b"] : List Str).map tyS) (i := 0) (σ := [some (.ref d.dl), some v1, none, none, none, none, none, none, none, none, none]) (by decide) rfl (ev_lst (ts := [tyS "ab", tyS "ab", tyS "ab", tyS "b"]) (ea_cons ev_c (ea_cons ev_c (ea_cons ev_c (ea_cons ev_c ea_nil))))) g h0 r _ fun v2 D1 H1 s1 ⟨tl, htl, hv2⟩ => ?_
  obtain ⟨ls, hls, rfl⟩ : ∃ ls, (ls = [97, 98] ∨ ls = [98]) ∧ v2 = .str (txt ls) := by
    obtain ⟨z, hz, rfl⟩ := List.mem_map.mp htl
    have hv2 : v2 = .str z := hv2
    have e1 : ("ab" : Str) = txt [97, 98] := by decide +kernel
    have e2 : ("b" : Str) = txt [98] := by decide +kernel
    simp only [List.mem_cons, List.not_mem_nil, or_false] at hz
    rcases hz with rfl | rfl | rfl | rfl
    · exact ⟨_, .inl rfl, by rw [hv2, e1]⟩
    · exact ⟨_, .inl rfl, by rw [hv2, e1]⟩
    · exact ⟨_, .inl rfl, by rw [hv2, e1]⟩
    · exact ⟨_, .inr rfl, by rw [hv2, e2]⟩
  refine evs_next (i := 0) (m := 2) (σ := [some (.ref d.dl), some v1, none, none, none, none, none, none, none, none, none]) (by decide) rfl ev_c s1.g h0 s1.r _ fun v3 D2 H2 s2 ⟨i3, e3, hi0, hi1⟩ => ?_
  subst e3
  refine ⟨1, i3, rfl, rfl, _, _, rfl, ?_⟩
  obtain ⟨n, hn, en⟩ : ∃ n : Nat, (n = 1 ∨ n = 2) ∧ 1 + i3 = n := ⟨(1 + i3).toNat, by omega, by omega⟩
  dsimp only
  rw [en]
  have s12 := s1.trans s2
  refine ⟨show (2 : Nat) ≤ sizeLine by decide, fun l hl => ?_⟩
  have g3 := (Grow.refl s2.g.dh).add (u := .lst [.str "x", .str "y"]) hl (.inl True.intro)
  have s3 := s12.grow g3
  refine evs_pick (ts := ([1, 2, 2, 2, 0] : List Int).map tyI) (i := 0) (σ := [some (.ref d.dl), some v1, some (.str (txt ls)), some (.int n), none, none, none, none, none, none, none]) (by decide) rfl (ev_lst (ts := [tyI 1, tyI 2, tyI 2, tyI 2, tyI 0]) (ea_cons ev_c (ea_cons ev_c (ea_cons ev_c (ea_cons ev_c (ea_cons ev_c ea_nil)))))) s3.g h0 s3.r _ fun v4 D4 H4 s4 ⟨tk, htk, hv4⟩ => ?_
  obtain ⟨kk, hkk, rfl⟩ : ∃ kk : Int, (kk = 0 ∨ kk = 1 ∨ kk = 2) ∧ v4 = .int kk := by
    obtain ⟨z, hz, rfl⟩ := List.mem_map.mp htk
    simp only [List.mem_cons, List.not_mem_nil, or_false] at hz
    exact ⟨z, by omega, hv4⟩
  refine ⟨kk, rfl, l, [.str "x", .str "y"], rfl, SqL.of (s4.g.dh.q.fx (u := .lst _) True.intro (s4.kp.q.fx (u := .lst _) True.intro upd_same)), fun l2 hl2 => ?_⟩
  obtain ⟨regs, hregs, ecut⟩ : ∃ regs : List Str, (regs = [] ∨ regs = [("x" : Str)] ∨ regs = [("x" : Str), ("y" : Str)]) ∧ cutV [.str "x", .str "y"] none (some kk) = regs.map V.str := by
    rcases hkk with rfl | rfl | rfl
    · exact ⟨[], .inl rfl, rfl⟩
    · exact ⟨["x"], .inr (.inl rfl), rfl⟩
    · exact ⟨["x", "y"], .inr (.inr rfl), rfl⟩
  rw [ecut]
  have g5 := (Grow.refl s4.g.dh).add (u := .lst (regs.map V.str)) hl2 (.inl True.intro)
  have s5 := (s3.trans s4).grow g5
  have hrz : regs.length ≤ 2 := by rcases hregs with h | h | h <;> rw [h] <;> decide
  have hrn : regs.Nodup := by rcases hregs with h | h | h <;> rw [h] <;> decide +kernel
  have t4 : (tyNames regs).p (.ref l2) (upd D4 l2 (.lst (regs.map V.str))) := ⟨l2, _, rfl, upd_same, by
    have := tysAt_of (xs := regs.map V.str) (H := upd D4 l2 (.lst (regs.map V.str)))
    rw [List.map_map] at this
    exact this⟩
  have tv1 := (tyNames ["a", "b"]).up s5.kp.q t1
  generalize upd D4 l2 (.lst (regs.map V.str)) = D5 at s5 t4 tv1 g5
  generalize upd H4 l2 (.lst (regs.map V.str)) = H5 at s5 g5 ⊢
  show tSeq _ _ _ [some (.ref d.dl), some v1, some (.str (txt ls)), some (.int n), some (.ref l2), none, none, none, none, none, none] H5
  refine dictS (K := K) (xs := regs) (key := fun r => .inr r) (out := fun _ => tyAny ((["", "", "a"] : List Str).map tyS)) (lcS (σ := [some (.ref d.dl), some v1, some (.str (txt ls)), some (.int n), some (.ref l2), none, none, none, none, none, none]) (j := 10) (vs := [10]) tyS (fun r => tyT [tyS r, tyAny ((["", "", "a"] : List Str).map tyS)]) (EvI.at_ (evi_list (ev_var (t := tyNames regs) (i := 4) rfl t4)).i s5.g.dh) s5.g s5.r (by omega) (fun _ => rfl) fun r hr D6 H6 k6 g6 r6 x hx => evs_tup2 ((Ev.at_ (ev_var (i := 10) rfl hx) g6.dh).s g6 r6) fun D7 H7 s7 => evs_pick (by decide) rfl (ev_lst (ts := [tyS "", tyS "", tyS "a"]) (ea_cons ev_c (ea_cons ev_c (ea_cons ev_c ea_nil)))) s7.g h0 s7.r) (inr_nd hrn) _ fun v5 D6 H6 s6 ⟨fd, fkv, efd, hfd, kfd⟩ => ?_
  subst efd
  obtain ⟨fst, hfst, kfst⟩ := any_fst hrn kfd
  have t5 : (tyHeld regs fst).p (.ref fd) D6 := ⟨fd, fkv, rfl, hfd, kfst⟩
  have s56 := s5.trans s6
  have w4 := (tyNames regs).up s6.kp.q t4
  have w1 := (tyNames ["a", "b"]).up s6.kp.q tv1
  intro st hst
  intro ed hed
  refine ⟨_, _, rfl, ?_⟩
  have hne : ed ≠ st := fun e => by
    rw [e, upd_same] at hed
    cases hed
  have hed6 : H6 ed = none := by rw [upd_ne hne] at hed; exact hed
  have hst0 : H0 st = none := s56.g.h.dom hst
  have hed0 : H0 ed = none := s56.g.h.dom hed6
  have dlst : d.dl ≠ st := fun e => by
    obtain ⟨_, c, _, l⟩ := s56.r
    have := l.h
    rw [e, hst] at this
    cases this
  have dled : d.dl ≠ ed := fun e => by
    obtain ⟨_, c, _, l⟩ := s56.r
    have := l.h
    rw [e, hed6] at this
    cases this
  have gS := s56.g.mut (u := .dT []) hst0 (s56.g.dh.dom hst) nf_dT
  have gE := gS.mut (u := .dK []) hed0 (s56.g.dh.dom hed6) nf_dK
  have o8 : Oth d D6 H6 D6 (upd (upd H6 st (.dT [])) ed (.dK [])) := Oth.put (Oth.put (fun a y n f l => l) hst) hed6
  have c8s : Loc st (.dT []) D6 (upd (upd H6 st (.dT [])) ed (.dK [])) := (Loc.new s56.g.dh hst).off (fun e => hne e.symm)
  have c8e : Loc ed (.dK []) D6 (upd (upd H6 st (.dT [])) ed (.dK [])) := ⟨s56.g.dh.dom hed6, upd_same⟩
  have r8 : Dr d D6 (upd (upd H6 st (.dT [])) ed (.dK [])) := (s56.r.off dlst).off dled
  have pr0 : PrI ⟨ls, n, regs, fst, fun _ _ => 0, fun _ _ _ => [], fun _ => none⟩ d D6 H6 st ed [] [] [] [] D6 (upd (upd H6 st (.dT [])) ed (.dK [])) :=
    ⟨r8, o8, c8s, .nil, c8e, .nil, fun x hx => (by cases hx), fun x hx => (by cases hx), fun _ _ => rfl⟩
  generalize upd (upd H6 st (.dT [])) ed (.dK []) = H8 at gE pr0 ⊢
  clear o8 c8s c8e r8 gS
  have nst : st ≠ d.dl := fun e => dlst e.symm
  have ned : ed ≠ d.dl := fun e => dled e.symm
  have hlsn : ls.Nodup := by rcases hls with h | h <;> rw [h] <;> decide
  have hlsl : ls.length ≤ 2 := by rcases hls with h | h <;> rw [h] <;> decide
  refine st_for (D0 := D0) (H0 := H0) (xs := List.range n) (D := D6) (fun i => tyI (i : Nat)) (PoI ls n regs fst d D6 H6 v1 l2 fd st ed) ?_ (evi_range1 (ea_cons (ev_var (t := tyI n) (σ := [some (.ref d.dl), some v1, some (.str (txt ls)), some (.int n), some (.ref l2), some (.ref fd), some (.ref st), some (.ref ed), none, none, none]) (i := 3) rfl rfl) ea_nil) (by omega)).i gE ?_ ?_ ?_
  · rintro i s D1 H1 D2 H2 ⟨p, kS, kE, x8, x9, e, h1, h2⟩ g
    exact ⟨p, kS, kE, x8, x9, e, h1, h2.grow g⟩
  · intro D7 H7 g7
    exact ⟨_, [], [], none, none, rfl, ⟨rfl, rfl, rfl, rfl⟩, pr0.grow g7⟩
  · rintro B kb i a ha s1' D7 H7 x kD7 gH7 ⟨p, kS, kE, x8, x9, rfl, ⟨rfl, rfl, rfl, rfl⟩, pr⟩ tx
    have hai : a = i ∧ i < p.n := by
      obtain ⟨h1, h2⟩ := List.getElem?_eq_some_iff.mp ha
      rw [List.length_range] at h1
      rw [List.getElem_range] at h2
      exact ⟨h2.symm, h1⟩
    obtain ⟨rfl, hin⟩ := hai
    have tx : x = .int (a : Nat) := tx
    subst tx
    have y4 := (tyNames p.regs).up (kb.trans kD7).q w4
    have y1 := (tyNames ["a", "b"]).up (kb.trans kD7).q w1
    show tSeq _ _ _ [some (.ref d.dl), some v1, some (.str (txt p.ls)), some (.int p.n), some (.ref l2), some (.ref fd), some (.ref st), some (.ref ed), some (.int (a : Nat)), x9, none] H7
    refine st_for (D0 := D0) (H0 := H0) (xs := p.ls) (D := D7) (fun c => tyS (sign c)) (PjI p.ls p.n p.regs p.fst d D6 H6 v1 l2 fd st ed a) ?_ (by
      have := evi_str (ev_var (t := tyS (txt p.ls)) (D := D7) (σ := [some (.ref d.dl), some v1, some (.str (txt p.ls)), some (.int p.n), some (.ref l2), some (.ref fd), some (.ref st), some (.ref ed), some (.int (a : Nat)), x9, none]) (i := 2) rfl rfl)
      rw [txt_list] at this
      exact this.i) gH7 ?_ ?_ ?_
    · rintro i s D1 H1 D2 H2 ⟨p, kS, kE, x9, e, h1, h2⟩ g
      exact ⟨p, kS, kE, x9, e, h1, h2.grow g⟩
    · intro D8 H8' g8
      refine ⟨p, kS, kE, x9, rfl, ⟨rfl, rfl, rfl, rfl⟩, ?_⟩
      rw [List.take_zero, List.map_nil, List.append_nil]
      exact pr.grow g8
    · rintro B2 kb2 j c hj s2' D8 H8' y kD8 gH8 ⟨p2, kS2, kE2, z9, rfl, ⟨e1, e2, e3, e4⟩, pr2⟩ ty
      have ty : y = .str (sign c) := ty
      subst ty
      have hcm := List.mem_of_getElem? hj
      have q4 := (tyNames p.regs).up (kb2.trans kD8).q y4
      have q1 := (tyNames ["a", "b"]).up (kb2.trans kD8).q y1
      have hno : ((a : Int), c) ∉ dueL p.ls (sts a) ++ (p.ls.take j).map fun c => ((a : Int), c) := fun hm => by
        rcases List.mem_append.mp hm with hm | hm
        · have := sts_mem.mp (dueL_mem hm)
          simp only at this
          omega
        · obtain ⟨c2, hc2, e⟩ := List.mem_map.mp hm
          have e : c2 = c := congrArg Prod.snd e
          subst e
          exact nd_take (key := fun k => k) (by rw [List.map_id']; exact hlsn) hj c2 hc2 rfl
      have hkl : kS2.length < 100000 := by
        rw [pr_len pr2.sk, List.length_map, List.length_append, List.length_map, List.length_take]
        have h1 : (dueL p.ls (sts a)).length = (sts a).length * p.ls.length := by
          unfold dueL
          rw [List.length_flatMap]
          generalize sts a = l
          induction l with
          | nil => simp
          | cons b r ih => rw [List.map_cons, List.sum_cons, ih, List.length_cons, List.length_map, Nat.add_mul, Nat.one_mul, Nat.add_comm]
        have h2 : (sts a).length = a := by unfold sts; rw [List.length_map, List.length_range]
        rw [h1, h2]
        have : a * p.ls.length ≤ 2 * 2 := Nat.mul_le_mul (by omega) hlsl
        omega
      refine st_dputTS (σ := [some (.ref d.dl), some v1, some (.str (txt p.ls)), some (.int p.n), some (.ref l2), some (.ref fd), some (.ref st), some (.ref ed), some (.int (a : Nat)), some (.str (sign c)), none]) (i := 6) (k := dkey ((a : Int), c)) (t := tyT [tyRg p.n, tyRowsB p.regs]) rfl nst pr2.s (evs_tup2 (evs_next (m := (p.n : Int)) (by omega) rfl (ev_var (i := 3) rfl rfl) gH8 h0 pr2.r) fun D9 H9 s9 => evs_rows hrz hrn rfl (ev_var (i := 4) rfl ((tyNames p.regs).up s9.kp.q q4)) (ev_var (i := 1) rfl ((tyNames ["a", "b"]).up s9.kp.q q1)) s9.g h0 s9.r) (fun D9 k9 => key_tup (x := ((a : Int), c)) (ev_var (i := 8) rfl rfl) (ev_var (i := 9) rfl rfl)) hkl (by
        rw [pr2.sk.keys, List.map_map]
        intro hm
        obtain ⟨z, hz, e⟩ := List.mem_map.mp hm
        have e := dkey_inj _ _ e
        subst e
        exact hno hz) fun v D9 H9 s9 tv9 c9 => ?_
      have pr3 := pr2.stp s9 nst ned
      rw [← e2, ← e3] at tv9
      obtain ⟨gg, row, pr4⟩ := pr3.step hno tv9 dlst hne hst
      refine ⟨D9, kD8.trans s9.kp, c9.set s9.g hst0 nf_dT, addStep p2 ((a : Int), c) gg row, kS2 ++ [(dkey ((a : Int), c), v)], kE2, some (.str (sign c)), rfl, ⟨e1, e2, e3, e4⟩, ?_⟩
      rw [take_one hj, List.map_append, ← List.append_assoc]
      exact pr4
    · rintro s2' D8 H8' kD8 gH8 ⟨p2, kS2, kE2, z9, rfl, ⟨e1, e2, e3, e4⟩, pr2⟩
      rw [List.take_length] at pr2
      have ed1 : dueL p.ls (sts (a + 1)) = dueL p.ls (sts a) ++ p.ls.map fun c => ((a : Int), c) := by
        rw [sts_succ]
        unfold dueL
        rw [List.flatMap_append]
        simp
      rw [← ed1] at pr2
      have q4 := (tyNames p.regs).up kD8.q y4
      have q1 := (tyNames ["a", "b"]).up kD8.q y1
      have hni : (a : Int) ∉ (sts a).filter fun s => (p2.en s).isSome := fun hm => by
        have := sts_mem.mp (List.mem_filter.mp hm).1
        omega
      refine tts_gt (i := 0) (σ := [some (.ref d.dl), some v1, some (.str (txt p.ls)), some (.int p.n), some (.ref l2), some (.ref fd), some (.ref st), some (.ref ed), some (.int (a : Nat)), z9, none]) (m := 5) (by decide) rfl gH8 h0 pr2.r _ fun b D9 H9 s9 => ?_
      have pr3 := pr2.stp s9 nst ned
      cases b with
      | false =>
        refine iteF ⟨D9, kD7.trans (kD8.trans s9.kp), s9.g, p2, kS2, kE2, some (.int (a : Nat)), z9, rfl, ⟨e1, e2, e3, e4⟩, ?_⟩
        have ef : (sts (a + 1)).filter (fun s => (p2.en s).isSome) = (sts a).filter fun s => (p2.en s).isSome := by
          rw [sts_succ, List.filter_append, List.filter_cons, pr2.no _ hni]
          simp
        rw [ef]
        exact pr3
      | true =>
        refine iteT ?_
        have kel : kE2.length < 100000 := by
          rw [pr_len pr3.ek, List.length_map]
          have h1 : ((sts a).filter fun s => (p2.en s).isSome).length ≤ (sts a).length := List.length_filter_le _ _
          have h2 : (sts a).length = a := by unfold sts; rw [List.length_map, List.length_range]
          omega
        refine st_dputS (σ := [some (.ref d.dl), some v1, some (.str (txt p.ls)), some (.int p.n), some (.ref l2), some (.ref fd), some (.ref st), some (.ref ed), some (.int (a : Nat)), z9, none]) (i := 7) (k := .inl (a : Int)) (t := tyRowB p.regs) rfl ned pr3.e (evs_lend hrz rfl (ev_var (i := 4) rfl ((tyNames p.regs).up s9.kp.q q4)) (ev_var (i := 1) rfl ((tyNames ["a", "b"]).up s9.kp.q q1)) s9.g h0 s9.r) (fun D10 k10 => ev_var (i := 8) rfl rfl) kel fun v D10 H10 s10 tv10 c10 => ?_
        have pr4 := pr3.stp s10 nst ned
        rw [← e3] at tv10
        obtain ⟨row, pr5⟩ := pr4.fin hni tv10 dled (fun e => hne e.symm) hed6
        have hno : (Sum.inl (a : Int) : Key) ∉ kE2.map (·.1) := by
          rw [pr3.ek.keys, List.map_map]
          intro hm
          obtain ⟨z, hz, e⟩ := List.mem_map.mp hm
          have e : z = (a : Int) := Sum.inl.inj e
          subst e
          exact hni hz
        have hp : putK kE2 (.inl (a : Int)) v = kE2 ++ [(.inl (a : Int), v)] := putK_new v (valV_no hno)
        refine ⟨D10, kD7.trans (kD8.trans (s9.trans s10).kp), ?_, addEnd p2 (a : Int) row, kS2, kE2 ++ [(.inl (a : Int), v)], some (.int (a : Nat)), z9, rfl, ⟨e1, e2, e3, e4⟩, ?_⟩
        · rw [hp]
          exact c10.set s10.g hed0 nf_dK
        · rw [hp]
          have ef : (sts (a + 1)).filter (fun s => ((addEnd p2 (a : Int) row).en s).isSome) = ((sts a).filter fun s => (p2.en s).isSome) ++ [(a : Int)] := by
            rw [sts_succ, List.filter_append]
            congr 1
            · exact List.filter_congr fun z hz => by
                have : z ≠ (a : Int) := fun e => by
                  have := sts_mem.mp hz
                  omega
                show (if z = (a : Int) then some row else p2.en z).isSome = _
                rw [if_neg this]
            · rw [List.filter_cons]
              have : ((addEnd p2 (a : Int) row).en (a : Int)).isSome = true := by
                show (if (a : Int) = (a : Int) then some row else p2.en a).isSome = true
                rw [if_pos rfl]
                rfl
              rw [this]
              rfl
          rw [ef]
          exact pr5
  · rintro s1' D7 H7 kD7 gH7 ⟨p, kS, kE, x8, x9, rfl, ⟨rfl, rfl, rfl, rfl⟩, pr⟩
    rw [List.length_range] at pr
    obtain ⟨gO, kO⟩ := pr.e.own gH7 hed0 (.inr True.intro)
    have rO := pr.r.own kO dled
    have cS : Loc st (.dT kS) (upd D7 ed (.dK kE)) H7 := ⟨by rw [upd_ne (fun e => hne e.symm)]; exact pr.s.d, pr.s.h⟩
    have tE : (tyEnds p).p (.ref ed) (upd D7 ed (.dK kE)) := ⟨ed, kE, rfl, .inl upd_same, KvsAt.up kO.q pr.ek⟩
    have tS := KvsAt.up kO.q pr.sk
    have kAll : Kp D (upd D7 ed (.dK kE)) := s56.kp.trans (kD7.trans kO)
    have t4f := (tyNames p.regs).up (kD7.trans kO).q w4
    have t5f := (tyHeld p.regs p.fst).up (kD7.trans kO).q t5
    generalize upd D7 ed (.dK kE) = D8 at gO kO rO cS tE tS kAll t4f t5f
    dsimp only
    refine ⟨_, rfl, _, rfl, _, rfl, _, rfl, _, rfl, _, rfl, show (6 : Nat) ≤ sizeLine by decide, fun T hT => ?_⟩
    have gT := (Grow.refl gO.dh).add (u := .tup [.str (txt p.ls), .int p.n, .ref l2, .ref fd, .ref st, .ref ed]) hT (.inl True.intro)
    refine q (.ref T) _ _ p T st (kAll.trans gT.d) (gO.trans gT) (rO.grow gT) ⟨hn, hls, hregs, fun r hr => ?_, fun x hx => (pr.gl x hx).1, fun x hx => (pr.gl x hx).2, fun s hs => (pr.en s hs).2⟩ ⟨rfl, ⟨.ref l2, .ref fd, .ref ed, upd_same, (tyNames p.regs).up gT.d.q t4f, (tyHeld p.regs p.fst).up gT.d.q t5f, (tyEnds p).up gT.d.q tE⟩, ⟨kS, cS.grow (x := .dT kS) True.intro gT, KvsAt.up gT.d.q tS⟩, hst0, nst⟩
    have := hfst r hr
    simp only [List.mem_cons, List.not_mem_nil, or_false] at this
    unfold txs
    rcases this with h | h | h <;> rw [h] <;> decide +kernel
end
end K02
set_option Elab.async false
set_option linter.all false
set_option maxRecDepth 100000
set_option maxHeartbeats 8000000
namespace K02
open PySem PySem.Spec PyProof.Rows L2 PySem.W
section
variable {P : Program} {w : World} {K : PySem.W.Frag} {mg : Str → Option Value} {base : Heap}
theorem cal_luses (F : Fc K mg) : Cal P w K mg base 1 "_law_uses" sp_registers_in := mk__law_uses F (fun _ _ _ _ h => SpF.len (n := 1) (fun _ => rfl) h) fun f cdv A outer s H vs Q E hr h => by
  have nd := sc__law_uses.nd
  obtain ⟨row, D, hz, k, tv, q⟩ := h
  refine ⟨_, (pss_one (ps_ret (pe_lc (own := [("_law_item", 1)]) rfl nd (k_pi_tup (pv 0)) (blkOk_by (N := n__law_uses) (sc := defScope s__law_uses) (by decide +kernel)) (fun _ _ _ _ _ => (pg_name (i := 1) nd rfl (.inl rfl))) (fun _ _ _ _ _ => pts_one (pt_val (pe_callB k_isi (by rfl) F.f_isinstance bt_isinstance (pa_cons (pv 1) (pa_cons (pe_bltn (v := .ty "tuple") (by rfl) F.f_tuple bt_tuple rfl) pa_nil))))) (fun _ _ _ _ _ => (pe_ix k_ix_tup (pv 1) pe_int (fun _ _ => rfl)))))), ?_⟩
  obtain ⟨v0, rfl, h0⟩ := args1 tv
  have x0 : Ev (tVar 0) (start n__law_uses [v0]) D (tyRow row) := ev_var rfl h0
  refine ret_ev (t := tyL ((regsOf row).map tyS)) (ev_is (by unfold regsOf; rw [List.map_filterMap]) (ev_lc (out := fun i => (regOf i).map tyS) tyItem (evi_tup x0).i (by omega) fun i hi D1 k1 x hx => ?_)) k q
  cases i with
  | inl s => exact lcel_if (b := false) rfl (eb_B (ev_isi (ev_var (i := 1) rfl hx) is_inl (by decide +kernel))) (fun h => by cases h) fun _ => rfl
  | inr r => exact lcel_if (b := true) rfl (eb_B (ev_isi (ev_var (i := 1) rfl hx) is_inr (by decide +kernel))) (fun _ => ⟨tyS r, rfl, ev_op (ev_var (i := 1) rfl hx) ev_c (rv_ixT rfl)⟩) fun h => by cases h
/-- _law_write: long texts too -/
abbrev sp_lwrite : Sp := SpF (fun x : List Item × List Str × (Str → Str) => [tyRow x.1, tyHeld x.2.1 x.2.2]) (fun x => tyS (textR x.2.2 x.1))
  (fun x => x.1.length ≤ 100 ∧ (∀ r, .inr r ∈ x.1 → r ∈ x.2.1) ∧ ((x.1.map (itemS x.2.2)).map (·.length)).sum ≤ 16777216)
theorem cal_lwrite (F : Fc K mg) : Cal P w K mg base 1 "_law_write" sp_lwrite := mk__law_write F (fun _ _ _ _ h => SpF.len (n := 2) (fun _ => rfl) h) fun f cdv A outer s H vs Q E hr h => by
  have nd := sc__law_write.nd
  have hu := Nat.lt_of_le_of_lt (Nat.add_le_add_left (by decide : 1 ≤ 64) _) hr.units
  obtain ⟨⟨row, regs, g⟩, D, ⟨hz, hm, hs⟩, k, tv, q⟩ := h
  refine ⟨_, (pss_one (ps_ret (pe_join pe_str (pe_lc (own := [("_law_item", 2)]) rfl nd (k_pi_tup (pv 0)) (blkOk_by (N := n__law_write) (sc := defScope s__law_write) (by decide +kernel)) (fun _ _ _ _ _ => (pg_name (i := 2) nd rfl (.inl rfl))) (fun _ _ _ _ _ => pts_nil) (fun _ _ _ _ _ => (pe_ifExp (pt_val (pe_callB k_isi (by rfl) F.f_isinstance bt_isinstance (pa_cons (pv 2) (pa_cons (pe_bltn (v := .ty "str") (by rfl) F.f_str bt_str rfl) pa_nil)))) (pv 2) (pe_dget hu (pv 1) (pe_ix k_ix_tup (pv 2) pe_int (fun _ _ => rfl)) (fun _ _ => rfl)))))))), ?_⟩
  obtain ⟨v0, v1, rfl, h1, h2⟩ := args2 tv
  have x0 : Ev (tVar 0) (start n__law_write [v0, v1]) D (tyRow row) := ev_var rfl h1
  refine ret_ev (t := tyS (textR g row)) (ev_join (ys := row.map (itemS g)) (ev_is (by rw [List.map_map]; rfl) (ev_lcm (out := fun i => tyS (itemS g i)) tyItem (evi_tup x0).i (Nat.le_trans hz (by decide)) fun i hi D1 k1 x hx => ?_)) hs) k q
  cases i with
  | inl s => exact lcel rfl (ev_if (b := true) (eb_B (ev_isi (ev_var (i := 2) rfl hx) is_inl (by decide +kernel))) (fun _ => ev_var (i := 2) rfl hx) fun h => by cases h)
  | inr r => exact lcel rfl (ev_if (b := false) (eb_B (ev_isi (ev_var (i := 2) rfl hx) is_inr (by decide +kernel))) (fun h => by cases h) fun _ =>
      ev_dget (k := .inr r) (ev_var (i := 1) rfl ((tyHeld regs g).up k1.q h2)) (ev_op (ev_var (i := 2) rfl hx) ev_c (rv_ixT rfl)) (has_held (hm r hi)))
theorem cal_lhas_twice (F : Fc K mg) : Cal P w K mg base 1 "_law_has_twice" sp_has_twice := mk__law_has_twice F (fun _ _ _ _ h => SpF.len (n := 1) (fun _ => rfl) h) fun f cdv A outer s H vs Q E hr h => by
  have nd := sc__law_has_twice.nd
  obtain ⟨ns, D, hz, k, tv, q⟩ := h
  refine ⟨_, (pss_one (ps_ret (pe_cmpR op_ne (pe_callB k_len_seq (by rfl) F.f_len bt_len (pa_cons (pv 0) pa_nil)) (pe_callB call_lenSet (by rfl) F.f_len bt_len (pa_cons (pe_callTy (cr_setL rfl) (by rfl) F.f_set bt_set (pa_cons (pv 0) pa_nil)) pa_nil)) (nomark _)))), ?_⟩
  obtain ⟨v0, rfl, h0⟩ := args1 tv
  have x0 : Ev (tVar 0) (start n__law_has_twice [v0]) D (tyNames ns) := ev_var rfl h0
  have e : (!decide (((ns.map tyS).length : Int) = ((dd ns).length : Nat))) = !decide ns.Nodup := by
    rw [List.length_map]
    congr 1
    rw [decide_eq_decide]
    exact ⟨fun h => dd_len_eq.mp (by omega), fun h => by rw [dd_nodup h]⟩
  exact ret_ev (t := tyB (!decide ns.Nodup)) (ev_op (ev_cb (ea_cons x0 ea_nil) rc_lenL) (ev_lenSet (P := P) (w := w) hz x0) (rv_neI e)) k q
end
end K02
set_option Elab.async false
set_option linter.all false
set_option maxRecDepth 100000
set_option maxHeartbeats 8000000
namespace K02
open PySem PySem.Spec PyProof.Rows L2 PySem.W
section
variable {X : Cx}
theorem dp_dkey {K : PySem.W.Frag} {H : Hp} {q : Addr} {y : Int × Nat} (h : H q = some (.tup ((dkey y).map kV))) : Dp K H (.ref q) (dDue y) := .tup (SqT.of h) (.cons (.int _) (.cons (.str _) .nil))
theorem due_alike (L : List (Int × Nat)) : AllAlike (L.map dDue) := AllAlike.of fun _ _ => rfl
theorem due_sortable (L : List (Int × Nat)) : Sortable (L.map dDue) := Sortable.tuples fun x => ⟨_, _, rfl⟩
theorem pr_ix {α β : Type} {F : α → β → Prop} : ∀ {xs : List α} {ys : List β}, xs.length = ys.length → (∀ (i : Nat) x y, xs[i]? = some x → ys[i]? = some y → F x y) → Paired F xs ys
  | [], [], _, _ => .nil
  | [], _ :: _, h, _ => by simp at h
  | _ :: _, [], h, _ => by simp at h
  | x :: xs, y :: ys, h, f => .cons (f 0 x y rfl rfl) (pr_ix (by simpa using h) fun i a b ha hb => f (i + 1) a b (by simpa using ha) (by simpa using hb))
/-- sorted(d), keys pairs of an int and a sign -/
theorem cr_srtDT (hc : X.calm = true) (hu : X.A.units + 64 < cLine) : CallR X (.builtin "sorted") (fun xs H Q => ∃ (a : Addr) (kvs : List (List Key × V)) (ks : List (Int × Nat)), xs = [V.ref a] ∧ Rd H a (.dT kvs) ∧ kvs.map (·.1) = ks.map dkey ∧ ks.length ≤ 100000 ∧
    ∀ ys p, Paired (fun (x : V) (y : Int × Nat) => ∃ q, x = .ref q ∧ H q = some (.tup ((dkey y).map kV))) ys (ks.mergeSort (dataLe false dDue)) → H p = none → Q (.ref p) (upd H p (.lst ys))) := by
  intro pins s σ H xs us Q I r h
  obtain ⟨a, kvs, ks, rfl, e, hk0, hL, q⟩ := h
  rw [Vals.ref1 r]
  obtain ⟨hd, z, es, ep, raw, hl, hk⟩ := rd_raw I.hok e
  have hz : kvs.length = ks.length := by
    have := congrArg List.length hk0
    rwa [List.length_map, List.length_map] at this
  obtain ⟨qs, hqs, hqe⟩ : ∃ qs : List Addr, Paired (fun (q : Addr) (y : Int × Nat) => H q = some (.tup ((dkey y).map kV))) qs ks ∧ ∀ (i : Nat) (hi : i < es.size), ∃ q, qs[i]? = some q ∧ es[i].key = .ref q := by
    have ex : ∀ i : Nat, ∃ q : Addr, ∀ (k : List Key) (v : V), kvs[i]? = some (k, v) → H q = some (.tup (k.map kV)) ∧ ∃ en, es[i]? = some en ∧ en.key = .ref q := fun i => by
      cases hkv : kvs[i]? with
      | none => exact ⟨0, fun k v e => by cases e⟩
      | some kv =>
        obtain ⟨en, q, h1, h2, h3, _⟩ := hk i kv.1 kv.2 hkv
        exact ⟨q, fun k v e => by cases e; exact ⟨h3, en, h1, h2⟩⟩
    have fq := fun i => Classical.choose_spec (ex i)
    refine ⟨(List.range ks.length).map fun i => Classical.choose (ex i), pr_ix (by rw [List.length_map, List.length_range]) fun i x y hx hy => ?_, fun i hi => ?_⟩
    · have hil := (List.getElem?_eq_some_iff.mp hy).1
      rw [List.getElem?_map, List.getElem?_range hil] at hx
      cases hx
      have hkv : kvs[i]? = some (kvs[i]'(by omega)) := List.getElem?_eq_getElem _
      have hke : (kvs[i]'(by omega)).1 = dkey y := by
        have := congrArg (·[i]?) hk0
        simp only [List.getElem?_map, hkv, hy, Option.map_some] at this
        exact Option.some.inj this
      rw [← hke]
      exact (fq i _ _ hkv).1
    · have hik : i < ks.length := by omega
      have hkv : kvs[i]? = some (kvs[i]'(by omega)) := List.getElem?_eq_getElem _
      obtain ⟨_, en, h1, h2⟩ := fq i _ _ hkv
      refine ⟨_, by rw [List.getElem?_map, List.getElem?_range hik]; rfl, ?_⟩
      rw [Array.getElem?_eq_getElem hi] at h1
      rw [Option.some.inj h1]
      exact h2
  have hR : Paired (fun (x : V) (y : Int × Nat) => ∃ q, x = .ref q ∧ H q = some (.tup ((dkey y).map kV))) (qs.map V.ref) ks := by
    clear hqe q hk0 hz hL
    induction hqs with
    | nil => exact .nil
    | cons h1 _ ih => exact .cons ⟨_, rfl, h1⟩ ih
  refine sorted_core (enc := dDue) (R := fun v y => ∃ x, RelV x v ∧ ∃ q, x = .ref q ∧ H q = some (.tup ((dkey y).map kV))) (bs0 := ks) (fun z => z = ks) (fun z e => by rw [e]) (fun Q1 E1 h1 => ?_) (due_alike _) (due_sortable _) hL (fun b hb => by have : (dDue b).depth = 1 := rfl; omega) fun s1 s' p out c bs' eb k1 k g o hp hg e => ?_
  · have hql : qs.length = ks.length := pr_len hqs
    refine kdu_collect (A := X.A.in1) (KdlSrc.rawDict (prog := X.prog) (w := X.w) (es := es) (ep := ep) hd) (show X.A.in1.handled = none from I.ok.hd hc) raw (by rw [hl]; exact z) fun h' tk acc k hacc => ?_
    have eacc : acc.toList = qs.map Value.ref := by
      refine List.ext_getElem? fun i => ?_
      by_cases c : i < es.size
      · obtain ⟨q2, h3, h4⟩ := hqe i c
        have hc2 : i < acc.size := by rw [hacc.1]; exact c
        obtain ⟨_, e2⟩ := hacc.2 i acc[i] (Array.getElem?_eq_getElem hc2)
        rw [List.getElem?_map, h3, Array.getElem?_toList, Array.getElem?_eq_getElem hc2, e2, h4]
        rfl
      · have h3 : qs[i]? = none := List.getElem?_eq_none (by omega)
        have h4 : acc[i]? = none := Array.getElem?_eq_none (by have := hacc.1; omega)
        rw [List.getElem?_map, h3, Array.getElem?_toList, h4]
        rfl
    have hv : Vals (qs.map V.ref) acc.toList := by
      rw [eacc]
      clear eacc hqe hqs hR hql
      induction qs with
      | nil => exact .nil
      | cons a r ih => exact .cons rfl ih
    refine h1 _ _ _ rfl k rfl rfl (vals_each hv hR) ?_
    have hd2 : DpAll X.K H (qs.map V.ref) (ks.map dDue) := by
      clear hv eacc hacc hR q hk0 hz hqe hql hL h1
      induction hqs with
      | nil => exact .nil
      | cons h5 _ ih => exact .cons (dp_dkey h5) ih
    obtain ⟨as, rd⟩ := Dp.readsAll I _ _ _ hd2 hv
    exact (readsAll_each dDue rd).mono fun v b ⟨as, r⟩ => ⟨as, PyProof.Rows.Reads.keeps k r⟩
  · subst eb
    obtain ⟨ys, h1, h2⟩ := each_vals e
    exact fin_list I k1 k g o hp hg h1 (by rw [pr_len h2, List.length_mergeSort, ← hz]; exact z) (q ys p h2)
end
end K02
set_option Elab.async false
set_option linter.all false
set_option maxRecDepth 100000
set_option maxHeartbeats 4000000
namespace K02
open PySem PySem.Spec PyProof.Rows L2 PySem.W
/-! ### what _law_lives finds, in plain words -/
def seedL (p : Pg) (s : Int) : Pr := (s, sortS (dd (regsOf (enr p s))))
def childL (p : Pg) (y : Int × Nat) (ns : List Str) : Pr := (y.1, sortS (dd (usesOf (p.row y.1 y.2) ns)))
inductive LwK (p : Pg) : Nat → List Pr → Bool → Prop
  | zero {ks : List Pr} {b : Bool} : ks.Nodup → (∀ z, z ∈ ks ↔ ∃ s ∈ rch p, s ∈ ens p ∧ z = seedL p s) → (b = true ↔ ∃ s ∈ rch p, s ∈ ens p ∧ ¬ (regsOf (enr p s)).Nodup) → LwK p 0 ks b
  | next {k : Nat} {ks ks2 : List Pr} {b b2 : Bool} : LwK p k ks b → ks2.Nodup → (∀ z, z ∈ ks2 ↔ z ∈ ks ∨ ∃ w ∈ ks, ∃ y ∈ bk p w.1, z = childL p y w.2) →
      (b2 = true ↔ b = true ∨ ∃ w ∈ ks, ∃ y ∈ bk p w.1, ¬ (usesOf (p.row y.1 y.2) w.2).Nodup) → LwK p (k + 1) ks2 b2
theorem seedL_eq {p : Pg} {s : Int} (h : (regsOf (enr p s)).Nodup) : seedL p s = seedP p s := by
  unfold seedL seedP
  rw [dd_nodup h]
theorem childL_eq {p : Pg} {y : Int × Nat} {ns : List Str} (h : (usesOf (p.row y.1 y.2) ns).Nodup) : childL p y ns = childP p y ns := by
  unfold childL childP
  rw [dd_nodup h]
theorem stpC_iff {p : Pg} {ks : List Pr} {ns : List Str} {y : Int × Nat} : stpC p ks ns y = true ↔ (usesOf (p.row y.1 y.2) ns).Nodup ∧ childP p y ns ∈ ks := by
  unfold stpC
  rw [Bool.and_eq_true, decide_eq_true_eq, decide_eq_true_eq]
  rfl
theorem endC_iff {p : Pg} {ks : List Pr} {s : Int} : endC p ks s = true ↔ (s ∈ ens p → (regsOf (enr p s)).Nodup ∧ seedP p s ∈ ks) := by
  unfold endC
  rw [Bool.or_eq_true, Bool.and_eq_true, decide_eq_true_eq, decide_eq_true_eq, Bool.not_eq_true', decide_eq_false_iff_not]
  constructor
  · rintro (h | h) hs
    · exact absurd hs h
    · exact h
  · intro h
    by_cases c : s ∈ ens p
    · exact .inr (h c)
    · exact .inl c
theorem LwK.nd {p : Pg} {k : Nat} {ks : List Pr} {b : Bool} (h : LwK p k ks b) : ks.Nodup := by
  cases h <;> assumption
theorem LwK.seed {p : Pg} {k : Nat} {ks : List Pr} {b : Bool} (h : LwK p k ks b) {s : Int} (h1 : s ∈ rch p) (h2 : s ∈ ens p) : seedL p s ∈ ks := by
  induction h with
  | zero nd hm hb => exact (hm _).mpr ⟨s, h1, h2, rfl⟩
  | next h nd hm hb ih => exact (hm _).mpr (.inl ih)
theorem LwK.flag {p : Pg} {k : Nat} {ks : List Pr} {b : Bool} (h : LwK p k ks b) {s : Int} (h1 : s ∈ rch p) (h2 : s ∈ ens p) (h3 : ¬ (regsOf (enr p s)).Nodup) : b = true := by
  induction h with
  | zero nd hm hb => exact hb.mpr ⟨s, h1, h2, h3⟩
  | next h nd hm hb ih => exact hb.mpr (.inl ih)
/-- no more than judge's pairs, and nothing twice -/
theorem LwK.sub {p : Pg} {es : List Je} (j : JInv p es []) {k : Nat} {ks : List Pr} {b : Bool} (h : LwK p k ks b) : b = false ∧ ∀ z ∈ ks, z ∈ es.map (·.1) := by
  induction h with
  | @zero ks b nd hm hb =>
    refine ⟨?_, fun z hz => ?_⟩
    · cases b with
      | false => rfl
      | true =>
        obtain ⟨s, h1, h2, h3⟩ := hb.mp rfl
        exact absurd (j.seeds s h1 h2).1 h3
    · obtain ⟨s, h1, h2, rfl⟩ := (hm z).mp hz
      have := j.seeds s h1 h2
      rw [seedL_eq this.1]
      exact this.2
  | @next k ks ks2 b b2 h nd hm hb ih =>
    obtain ⟨e, sub⟩ := ih
    have st : ∀ w ∈ ks, ∀ y ∈ bk p w.1, (usesOf (p.row y.1 y.2) w.2).Nodup ∧ childP p y w.2 ∈ es.map (·.1) := fun w hw y hy => stpC_iff.mp (j.clo w (sub w hw) (by simp) y hy)
    refine ⟨?_, fun z hz => ?_⟩
    · cases b2 with
      | false => rfl
      | true =>
        rcases hb.mp rfl with h | ⟨w, hw, y, hy, h⟩
        · rw [e] at h
          cases h
        · exact absurd (st w hw y hy).1 h
    · rcases (hm z).mp hz with h | ⟨w, hw, y, hy, rfl⟩
      · exact sub z h
      · rw [childL_eq (st w hw y hy).1]
        exact (st w hw y hy).2
/-- all of judge's pairs -/
theorem LwK.all {p : Pg} {es : List Je} (j : JInv p es []) {k : Nat} {ks : List Pr} {b : Bool} (h : LwK p k ks b) : ∀ (i : Nat) (e : Je), es[i]? = some e → i ≤ k → e.1 ∈ ks := by
  induction h with
  | @zero ks b nd hm hb =>
    intro i e he hi
    rcases j.gen i e he with ⟨s, h1, h2, h3⟩ | ⟨l, hl, _⟩
    · rw [h3, ← seedL_eq (j.seeds s h1 h2).1]
      exact (hm _).mpr ⟨s, h1, h2, rfl⟩
    · omega
  | @next k ks ks2 b b2 h nd hm hb ih =>
    intro i e he hi
    rcases j.gen i e he with ⟨s, h1, h2, h3⟩ | ⟨l, hl, e2, he2, y, hy, h3⟩
    · rw [h3, ← seedL_eq (j.seeds s h1 h2).1]
      exact (hm _).mpr (.inl (h.seed h1 h2))
    · have hm2 : e2.1 ∈ es.map (·.1) := List.mem_map.mpr ⟨e2, List.mem_of_getElem? he2, rfl⟩
      have := stpC_iff.mp (j.clo e2.1 hm2 (by simp) y hy)
      rw [h3, ← childL_eq this.1]
      exact (hm _).mpr (.inr ⟨e2.1, ih l e2 he2 (by omega), y, hy, rfl⟩)
theorem LwK.lv {p : Pg} {k : Nat} {ks : List Pr} {b : Bool} (h : LwK p k ks b) : ∀ (rs : List Nat) (z : Pr), Lv p rs z → rs.length ≤ k → z ∈ ks := by
  induction h with
  | @zero ks b nd hm hb =>
    intro rs z hv hz
    cases hv with
    | end_ h1 h2 h3 =>
      rw [← seedL_eq h3]
      exact (hm _).mpr ⟨_, h1, h2, rfl⟩
    | step _ _ _ => simp at hz
  | @next k ks ks2 b b2 h nd hm hb ih =>
    intro rs z hv hz
    cases hv with
    | end_ h1 h2 h3 =>
      rw [← seedL_eq h3]
      exact (hm _).mpr (.inl (h.seed h1 h2))
    | step g1 g2 g3 =>
      rw [← childL_eq g3]
      refine (hm _).mpr (.inr ⟨_, ih _ _ g1 ?_, _, g2, rfl⟩)
      rw [List.length_cons] at hz
      omega
/-- what comes in twice is seen -/
theorem LwK.twice {p : Pg} {k : Nat} {ks : List Pr} {b : Bool} (h : LwK p k ks b) (hk : 9 ≤ k) (hw : TwWhy p) : b = true := by
  rcases hw with ⟨s, h1, h2, h3⟩ | ⟨rs, z, y, h1, h2, h3, h4⟩
  · exact h.flag h1 h2 h3
  · cases h with
    | zero _ _ _ => omega
    | next h nd hm hb => exact hb.mpr (.inr ⟨z, h.lv rs z h1 (by omega), y, h3, h4⟩)
/-! ### the certificate -/
theorem clos_iff {p : Pg} {ks : List Pr} : closP p ks = true ↔ (∀ s ∈ rch p, s ∈ ens p → (regsOf (enr p s)).Nodup ∧ seedP p s ∈ ks) ∧ ∀ x ∈ ks, ∀ y ∈ bk p x.1, (usesOf (p.row y.1 y.2) x.2).Nodup ∧ childP p y x.2 ∈ ks := by
  unfold closP
  rw [Bool.and_eq_true, List.all_eq_true, List.all_eq_true]
  constructor
  · rintro ⟨h1, h2⟩
    exact ⟨fun s hs => endC_iff.mp (h1 s hs), fun x hx y hy => stpC_iff.mp (List.all_eq_true.mp (h2 x hx) y hy)⟩
  · rintro ⟨h1, h2⟩
    exact ⟨fun s hs => endC_iff.mpr (h1 s hs), fun x hx => List.all_eq_true.mpr fun y hy => stpC_iff.mpr (h2 x hx y hy)⟩
theorem clos_yes {p : Pg} {es : List Je} (j : JInv p es []) {ks : List Pr} (m : ∀ z, z ∈ ks ↔ z ∈ es.map (·.1)) : closP p ks = true :=
  clos_iff.mpr ⟨fun s h1 h2 => ⟨(j.seeds s h1 h2).1, (m _).mpr (j.seeds s h1 h2).2⟩, fun x hx y hy => by
    have := stpC_iff.mp (j.clo x ((m x).mp hx) (by simp) y hy)
    exact ⟨this.1, (m _).mpr this.2⟩⟩
theorem clos_no {p : Pg} {es : List Je} (j : JInv p es []) {ks : List Pr} {z : Pr} (hz : z ∈ es.map (·.1)) (m : ∀ x, x ∈ ks ↔ x ∈ es.map (·.1) ∧ x ≠ z) : closP p ks = false := by
  cases hc : closP p ks with
  | false => rfl
  | true =>
    exfalso
    obtain ⟨c1, c2⟩ := clos_iff.mp hc
    obtain ⟨e, he, rfl⟩ := List.mem_map.mp hz
    obtain ⟨i, hi⟩ := List.mem_iff_getElem?.mp he
    rcases j.gen i e hi with ⟨s, h1, h2, h3⟩ | ⟨l, hl, e2, he2, y, hy, h3⟩
    · exact ((m _).mp (c1 s h1 h2).2).2 h3.symm
    · have hne : e2.1 ≠ e.1 := fun hh => by
        have g1 : (es.map (·.1))[l]? = some e2.1 := by rw [List.getElem?_map, he2]; rfl
        have g2 : (es.map (·.1))[i]? = some e.1 := by rw [List.getElem?_map, hi]; rfl
        rw [hh] at g1
        have := (List.getElem?_inj (List.getElem?_eq_some_iff.mp g1).1 j.nd).mp (g1.trans g2.symm)
        omega
      have hk : e2.1 ∈ ks := (m _).mpr ⟨List.mem_map.mpr ⟨e2, List.mem_of_getElem? he2, rfl⟩, hne⟩
      exact ((m _).mp (c2 _ hk y hy).2).2 h3.symm
/-! ### plain programs have nothing twice -/
theorem flat_nd {α β : Type} {f : α → List β} {l m : List α} (h : (l.flatMap f).Nodup) (hn : m.Nodup) (hs : ∀ a ∈ m, a ∈ l) : (m.flatMap f).Nodup := by
  obtain ⟨h1, h2⟩ := List.pairwise_flatMap.mp h
  have h3 : ∀ a ∈ l, ∀ b ∈ l, a ≠ b → ∀ x ∈ f a, ∀ y ∈ f b, x ≠ y := by
    clear h h1 hs hn
    induction l with
    | nil => intro a ha; cases ha
    | cons c r ih =>
      obtain ⟨g1, g2⟩ := List.pairwise_cons.mp h2
      intro a ha b hb hab x hx y hy
      rcases List.mem_cons.mp ha with ea | ha2
      · rcases List.mem_cons.mp hb with eb | hb2
        · exact absurd (ea.trans eb.symm) hab
        · subst ea
          exact g1 b hb2 x hx y hy
      · rcases List.mem_cons.mp hb with eb | hb2
        · subst eb
          exact fun e => g1 a ha2 y hy x hx e.symm
        · exact ih g2 a ha2 b hb2 hab x hx y hy
  refine List.pairwise_flatMap.mpr ⟨fun a ha => h1 a (hs a ha), ?_⟩
  exact List.Pairwise.imp_of_mem (fun ha hb hab => h3 _ (hs _ ha) _ (hs _ hb) hab) hn
theorem LwK.plain {p : Pg} (o : PgOk p) (hp : plainP p = true) {k : Nat} {ks : List Pr} {b : Bool} (h : LwK p k ks b) : b = false ∧ ∀ z ∈ ks, z.2.Nodup ∧ ∀ r ∈ z.2, r ∈ p.regs := by
  unfold plainP at hp
  rw [Bool.and_eq_true, List.all_eq_true, List.all_eq_true] at hp
  have hp1 : ∀ x ∈ due p, (usesOf (p.row x.1 x.2) p.regs).Nodup := fun x hx => of_decide_eq_true (hp.1 x hx)
  have hp2 : ∀ s ∈ ens p, (regsOf (enr p s)).Nodup := fun s hs => of_decide_eq_true (hp.2 s hs)
  induction h with
  | @zero ks b nd hm hb =>
    refine ⟨?_, fun z hz => ?_⟩
    · cases b with
      | false => rfl
      | true =>
        obtain ⟨s, h1, h2, h3⟩ := hb.mp rfl
        exact absurd (hp2 s h2) h3
    · obtain ⟨s, h1, h2, rfl⟩ := (hm z).mp hz
      rw [seedL_eq (hp2 s h2)]
      exact ⟨(perm_sortS _).nodup_iff.mpr (hp2 s h2), fun r hr => regs_sub o h2 r ((perm_sortS _).mem_iff.mp hr)⟩
  | @next k ks ks2 b b2 h nd hm hb ih =>
    obtain ⟨e, sub⟩ := ih
    have st : ∀ w ∈ ks, ∀ y ∈ bk p w.1, (usesOf (p.row y.1 y.2) w.2).Nodup := fun w hw y hy => flat_nd (hp1 y (bk_due o hy)) (sub w hw).1 (sub w hw).2
    refine ⟨?_, fun z hz => ?_⟩
    · cases b2 with
      | false => rfl
      | true =>
        rcases hb.mp rfl with h | ⟨w, hw, y, hy, h⟩
        · rw [e] at h
          cases h
        · exact absurd (st w hw y hy) h
    · rcases (hm z).mp hz with h | ⟨w, hw, y, hy, rfl⟩
      · exact sub z h
      · rw [childL_eq (st w hw y hy)]
        exact ⟨(perm_sortS _).nodup_iff.mpr (st w hw y hy), fun r hr => uses_sub o (bk_due o hy) (sub w hw).2 r ((perm_sortS _).mem_iff.mp hr)⟩
/-! ### sizes -/
theorem dd_sub {l : List Str} {S : List Str} (h : ∀ r ∈ l, r ∈ S) : ∀ r ∈ dd l, r ∈ S := fun r hr => h r (mem_dd.mp hr)
theorem LwK.rg {p : Pg} (o : PgOk p) {k : Nat} {ks : List Pr} {b : Bool} (h : LwK p k ks b) : ∀ z ∈ ks, z.1 ∈ rch p ∧ ∃ ns : List Str, ns.Nodup ∧ (∀ r ∈ ns, r ∈ p.regs) ∧ z.2 = sortS ns := by
  induction h with
  | @zero ks b nd hm hb =>
    intro z hz
    obtain ⟨s, h1, h2, rfl⟩ := (hm z).mp hz
    exact ⟨h1, _, nodup_dd _, dd_sub (regs_sub o h2), rfl⟩
  | @next k ks ks2 b b2 h nd hm hb ih =>
    intro z hz
    rcases (hm z).mp hz with h | ⟨w, hw, y, hy, rfl⟩
    · exact ih z h
    · obtain ⟨_, ns, _, h3, h4⟩ := ih w hw
      refine ⟨(bk_mem.mp hy).1.1, _, nodup_dd _, dd_sub (uses_sub o (bk_due o hy) fun r hr => ?_), rfl⟩
      rw [h4] at hr
      exact h3 r ((perm_sortS _).mem_iff.mp hr)
theorem LwK.len {p : Pg} (o : PgOk p) {k : Nat} {ks : List Pr} {b : Bool} (h : LwK p k ks b) : ks.length ≤ 8 := prs_len o h.nd (h.rg o)
theorem LwK.ok {p : Pg} (o : PgOk p) {k : Nat} {ks : List Pr} {b : Bool} (h : LwK p k ks b) {z : Pr} (hz : z ∈ ks) : (∀ r ∈ z.2, r ∈ p.regs) ∧ z.2.length ≤ 2 := by
  obtain ⟨_, ns, h2, h3, h4⟩ := h.rg o z hz
  have h5 : ∀ r ∈ z.2, r ∈ p.regs := fun r hr => by
    rw [h4] at hr
    exact h3 r ((perm_sortS _).mem_iff.mp hr)
  refine ⟨h5, regs_two o ?_ h5⟩
  rw [h4]
  exact (perm_sortS _).nodup_iff.mpr h2
/-- judge's pairs and law's -/
theorem LwK.same {p : Pg} (o : PgOk p) {es : List Je} (j : JInv p es []) {k : Nat} {ks : List Pr} {b : Bool} (h : LwK p k ks b) (hk : 8 ≤ k) : ∀ z, z ∈ ks ↔ z ∈ es.map (·.1) := fun z => by
  refine ⟨fun hz => (h.sub j).2 z hz, fun hz => ?_⟩
  obtain ⟨e, he, rfl⟩ := List.mem_map.mp hz
  obtain ⟨i, hi⟩ := List.mem_iff_getElem?.mp he
  have h8 := es_len o j.nd j.lv
  have := (List.getElem?_eq_some_iff.mp hi).1
  exact h.all j i e hi (by omega)
/-! ### joined rows -/
theorem regs_cat (a b : List Item) : regsOf (a ++ b) = regsOf a ++ regsOf b := by
  unfold regsOf
  rw [List.filterMap_append]
theorem regs_txt (s : Str) : regsOf [.inl s] = [] := rfl
theorem regs_step (acc : List Item) (it : Item) : regsOf (joinStep acc it) = regsOf acc ++ regsOf [it] := by
  unfold joinStep
  split
  · rename_i s t h
    obtain ⟨ys, e⟩ := List.getLast?_eq_some_iff.mp h
    subst e
    rw [List.dropLast_concat, regs_cat, regs_cat, regs_txt, regs_txt, regs_txt]
    simp
  · rw [regs_cat]
theorem regs_fold : ∀ (row acc : List Item), regsOf (row.foldl joinStep acc) = regsOf acc ++ regsOf row
  | [], acc => by simp [regsOf]
  | it :: r, acc => by
    rw [List.foldl_cons, regs_fold r, regs_step, List.append_assoc, ← regs_cat]
    rfl
theorem regs_filter {f : Item → Bool} (h : ∀ r, f (.inr r) = true) : ∀ l : List Item, regsOf (l.filter f) = regsOf l
  | [] => rfl
  | .inl s :: r => by
    rw [List.filter_cons]
    split
    · show regsOf (r.filter f) = regsOf r
      exact regs_filter h r
    · show regsOf (r.filter f) = regsOf r
      exact regs_filter h r
  | .inr x :: r => by
    rw [List.filter_cons, if_pos (h x)]
    show x :: regsOf (r.filter f) = x :: regsOf r
    rw [regs_filter h r]
theorem regs_join (row : List Item) : regsOf (joinR row) = regsOf row := by
  unfold joinR
  rw [regs_filter (fun r => by rfl), regs_fold]
  rfl
theorem uses_norm (g : Str → List Item) (ns : List Str) : usesOf (fun r => joinR (g r)) ns = usesOf g ns := by
  unfold usesOf
  congr 1
  funext r
  exact regs_join _
theorem enr_normR (p : Pg) (s : Int) : regsOf (enr (normP p) s) = regsOf (enr p s) := by
  unfold enr normP
  dsimp only
  cases p.en s with
  | none => rfl
  | some row => exact regs_join row
theorem rch_norm (p : Pg) : rch (normP p) = rch p := rfl
theorem bk_norm (p : Pg) (k : Int) : bk (normP p) k = bk p k := rfl
theorem plain_norm (p : Pg) : plainP (normP p) = plainP p := by
  unfold plainP
  rw [ens_norm]
  have e1 : (fun x : Int × Nat => decide (usesOf ((normP p).row x.1 x.2) (normP p).regs).Nodup) = fun x => decide (usesOf (p.row x.1 x.2) p.regs).Nodup := by
    funext x
    show decide (usesOf (fun r => joinR (p.row x.1 x.2 r)) p.regs).Nodup = _
    rw [uses_norm]
  have e2 : (fun s : Int => decide (regsOf (enr (normP p) s)).Nodup) = fun s => decide (regsOf (enr p s)).Nodup := by
    funext s
    rw [enr_normR]
  rw [e1, e2]
  rfl
theorem LwK.norm {p : Pg} {k : Nat} {ks : List Pr} {b : Bool} (h : LwK p k ks b) : LwK (normP p) k ks b := by
  have eS : ∀ s, seedL (normP p) s = seedL p s := fun s => by unfold seedL; rw [enr_normR]
  have eC : ∀ y ns, childL (normP p) y ns = childL p y ns := fun y ns => by
    unfold childL
    show (y.1, sortS (dd (usesOf (fun r => joinR (p.row y.1 y.2 r)) ns))) = _
    rw [uses_norm]
  induction h with
  | zero nd hm hb =>
    refine .zero nd (fun z => ?_) ?_
    · rw [hm z, rch_norm, ens_norm]
      simp only [eS]
    · rw [hb, rch_norm, ens_norm]
      simp only [enr_normR]
  | next h nd hm hb ih =>
    refine .next ih nd (fun z => ?_) ?_
    · rw [hm z]
      simp only [eC, bk_norm]
    · rw [hb]
      have : ∀ (y : Int × Nat) ns, usesOf ((normP p).row y.1 y.2) ns = usesOf (p.row y.1 y.2) ns := fun y ns => uses_norm _ _
      simp only [this, bk_norm]
end K02
set_option Elab.async false
set_option linter.all false
set_option maxRecDepth 100000
set_option maxHeartbeats 4000000
namespace K02
open PySem PySem.Spec PyProof.Rows L2 PySem.W
/-! ### the program that law builds -/
structure PgC (p : Pg) : Prop where
  n : p.n = 1 ∨ p.n = 2
  ls : p.ls = [97, 98] ∨ p.ls = [98]
  regs : p.regs = [] ∨ p.regs = [("x" : Str)] ∨ p.regs = [("x" : Str), ("y" : Str)]
  fst : ∀ r ∈ p.regs, (p.fst r).length ≤ 100 ∧ Sg (p.fst r)
  goal : ∀ x ∈ due p, 0 ≤ p.goal x.1 x.2 ∧ p.goal x.1 x.2 < p.n
  row : ∀ x ∈ due p, ∀ r ∈ p.regs, RowB p.regs 5 (p.row x.1 x.2 r)
  en : ∀ s ∈ ens p, RowB p.regs 5 (enr p s)
theorem regs_names {R : List Str} (h : R = [] ∨ R = [("x" : Str)] ∨ R = [("x" : Str), ("y" : Str)]) : ∀ r ∈ R, 1 ≤ r.length ∧ r.length ≤ 8 ∧ Sm r := by
  have h2 : ∀ r ∈ (["x", "y"] : List Str), 1 ≤ r.length ∧ r.length ≤ 8 ∧ Sm r := by
    unfold Sm
    decide +kernel
  intro r hr
  refine h2 r ?_
  rcases h with e | e | e <;> rw [e] at hr <;> simp at hr ⊢ <;> simp [hr]
theorem txs_ok : ∀ s ∈ txs, s.length ≤ 1 ∧ Sg s := by
  unfold Sg
  decide +kernel
theorem PgC.ok {p : Pg} (c : PgC p) : PgOk p :=
  ⟨c.n, c.ls, c.regs, c.fst, c.goal, fun x hx r hr => ⟨(c.row x hx r hr).len, (c.row x hx r hr).ok (by decide) (regs_names c.regs)⟩, fun s hs => ⟨(c.en s hs).len, (c.en s hs).ok (by decide) (regs_names c.regs)⟩⟩
def tlI : Item → Nat
  | .inl s => s.length
  | .inr _ => 0
def okI (regs : List Str) : Item → Prop
  | .inl s => Sg s
  | .inr r => r ∈ regs
theorem app_len (a b : Str) : (a ++ b).length = a.length + b.length := by
  show (Str.mk (a.cps ++ b.cps)).cps.size = _
  exact Array.size_append
theorem Sg.app {a b : Str} (h1 : Sg a) (h2 : Sg b) : Sg (a ++ b) := fun c hc => by
  have hc : c ∈ (a.cps ++ b.cps).toList := hc
  rw [Array.toList_append] at hc
  rcases List.mem_append.mp hc with h | h
  · exact h1 c h
  · exact h2 c h
theorem join_step1 {regs : List Str} {acc : List Item} {it : Item} (h1 : ∀ i ∈ acc, okI regs i) (h2 : okI regs it) :
    (∀ i ∈ joinStep acc it, okI regs i) ∧ (joinStep acc it).length ≤ acc.length + 1 ∧ ((joinStep acc it).map tlI).sum = (acc.map tlI).sum + tlI it := by
  unfold joinStep
  split
  · rename_i s t h
    obtain ⟨ys, e⟩ := List.getLast?_eq_some_iff.mp h
    subst e
    rw [List.dropLast_concat]
    refine ⟨fun i hi => ?_, by simp, ?_⟩
    · rcases List.mem_append.mp hi with hi | hi
      · exact h1 i (List.mem_append_left _ hi)
      · rw [List.mem_singleton.mp hi]
        exact Sg.app (h1 (.inl t) (by simp)) h2
    · simp [tlI, app_len]
      omega
  · refine ⟨fun i hi => ?_, by simp, by simp⟩
    rcases List.mem_append.mp hi with hi | hi
    · exact h1 i hi
    · rw [List.mem_singleton.mp hi]
      exact h2
theorem join_fold {regs : List Str} : ∀ (row acc : List Item), (∀ i ∈ acc, okI regs i) → (∀ i ∈ row, okI regs i) →
    (∀ i ∈ row.foldl joinStep acc, okI regs i) ∧ (row.foldl joinStep acc).length ≤ acc.length + row.length ∧ ((row.foldl joinStep acc).map tlI).sum = (acc.map tlI).sum + (row.map tlI).sum
  | [], acc, h1, _ => ⟨h1, Nat.le_refl _, by simp⟩
  | it :: r, acc, h1, h2 => by
    obtain ⟨a1, a2, a3⟩ := join_step1 h1 (h2 it List.mem_cons_self)
    obtain ⟨b1, b2, b3⟩ := join_fold r _ a1 fun i hi => h2 i (List.mem_cons_of_mem _ hi)
    rw [List.foldl_cons]
    refine ⟨b1, ?_, ?_⟩
    · rw [List.length_cons]
      omega
    · rw [b3, a3, List.map_cons, List.sum_cons]
      omega
theorem tl_le {i : Item} : ∀ {l : List Item}, i ∈ l → tlI i ≤ (l.map tlI).sum
  | a :: r, h => by
    rw [List.map_cons, List.sum_cons]
    rcases List.mem_cons.mp h with rfl | h
    · omega
    · have := tl_le h
      omega
theorem sum_le {α : Type} {f : α → Nat} {N : Nat} : ∀ {l : List α}, (∀ a ∈ l, f a ≤ N) → (l.map f).sum ≤ l.length * N
  | [], _ => by simp
  | a :: r, h => by
    rw [List.map_cons, List.sum_cons, List.length_cons, Nat.add_mul, Nat.one_mul]
    have h1 := h a List.mem_cons_self
    have h2 := sum_le (l := r) fun b hb => h b (List.mem_cons_of_mem _ hb)
    omega
theorem RowB.norm {regs : List Str} {row : List Item} (b : RowB regs 5 row) (hr : ∀ r ∈ regs, 1 ≤ r.length ∧ r.length ≤ 8 ∧ Sm r) : (joinR row).length ≤ 5 ∧ RowOk regs (joinR row) := by
  have h0 : ∀ i ∈ row, okI regs i ∧ tlI i ≤ 1 := fun i hi => by
    rcases b.it i hi with ⟨s, hs, rfl⟩ | ⟨r, hm, rfl⟩
    · exact ⟨(txs_ok s hs).2, (txs_ok s hs).1⟩
    · exact ⟨hm, Nat.zero_le _⟩
  obtain ⟨b1, b2, b3⟩ := join_fold row [] (fun i hi => by cases hi) fun i hi => (h0 i hi).1
  have b4 : (row.map tlI).sum ≤ row.length * 1 := sum_le fun i hi => (h0 i hi).2
  have b5 := b.len
  have hl : (joinR row).length ≤ 5 := by
    unfold joinR
    refine Nat.le_trans (List.length_filter_le _ _) ?_
    simp at b2
    omega
  refine ⟨hl, by omega, fun i hi => ?_⟩
  unfold joinR at hi
  have hi := (List.mem_filter.mp hi).1
  have k1 := b1 i hi
  have k2 := tl_le hi
  rw [b3] at k2
  cases i with
  | inl s =>
    refine ⟨⟨?_, k1⟩, fun r e => by cases e⟩
    have k2 : s.length ≤ _ := k2
    simp at k2
    omega
  | inr r =>
    refine ⟨fun c hc => ?_, fun r2 e => by cases e; exact k1⟩
    have h1 : ∀ c ∈ ("abcdefghijklmnopqrstuvwxyz" : Str).cps.toList, c ∈ ("abcdefghijklmnopqrstuvwxyz0123456789" : Str).cps.toList := by decide +kernel
    exact h1 c ((hr r k1).2.2 c hc)
theorem PgC.okN {p : Pg} (c : PgC p) : PgOk (normP p) :=
  ⟨c.n, c.ls, c.regs, c.fst, c.goal, fun x hx r hr => (c.row x hx r hr).norm (regs_names c.regs), fun s hs => by
    rw [ens_norm] at hs
    have h := (c.en s hs).norm (regs_names c.regs)
    rw [enr_norm hs]
    exact h⟩
/-! ### counted forwards and backwards -/
def stepN (R : Str → List Item) (c : Str → Nat) : Str → Nat := fun r => ((regsOf (R r)).map c).sum
theorem sum_flat {c : Str → Nat} {f : Str → List Str} : ∀ V : List Str, ((V.flatMap f).map c).sum = (V.map fun r => ((f r).map c).sum).sum
  | [] => rfl
  | r :: V => by
    rw [List.flatMap_cons, List.map_append, List.sum_append, sum_flat V, List.map_cons, List.sum_cons]
theorem dual : ∀ (Rs : List (Str → List Item)) (c : Str → Nat) (U : List Str), ((usesB Rs U).map c).sum = (U.map (Rs.foldl (fun c R => stepN R c) c)).sum
  | [], _, _ => rfl
  | R :: Rs, c, U => by
    show ((usesOf R (usesB Rs U)).map c).sum = _
    unfold usesOf
    rw [sum_flat, List.foldl_cons, ← dual Rs (stepN R c) U]
    rfl
def oneN (nm : Str) : Str → Nat := fun r => if r = nm then 1 else 0
theorem sum_one (nm : Str) : ∀ l : List Str, (l.map (oneN nm)).sum = l.count nm
  | [] => rfl
  | r :: l => by
    rw [List.map_cons, List.sum_cons, sum_one nm l, List.count_cons]
    unfold oneN
    by_cases c : r = nm
    · rw [if_pos c, if_pos (by rw [c]; exact beq_self_eq_true _)]
      omega
    · rw [if_neg c, if_neg (by simpa using c)]
      omega
def isR : Item → Bool
  | .inl _ => false
  | .inr _ => true
def markF (nm : Str) : Str → Str := fun r => if r = nm then "z" else ""
def lateP (p : Pg) (nm : Str) : Pg := { p with fst := markF nm, row := fun s c r => (p.row s c r).filter isR, en := fun s => (p.en s).map fun row => row.filter isR }
theorem mark_len (nm r : Str) : (markF nm r).length = oneN nm r := by
  unfold markF oneN
  split <;> rfl
theorem glue_eq (ys : List Str) : (glue ys).length = (ys.map (·.length)).sum := Nat.le_antisymm (glue_len ys) (len_join_ge_sum _ ys)
theorem text_late (g : Str → Str) : ∀ row : List Item, ((row.filter isR).map (itemS g)).map (·.length) = (regsOf row).map fun r => (g r).length
  | [] => rfl
  | .inl s :: r => text_late g r
  | .inr x :: r => by
    show (g x).length :: (((r.filter isR).map (itemS g)).map (·.length)) = (g x).length :: (regsOf r).map fun r => (g r).length
    rw [text_late g r]
theorem textR_late (g : Str → Str) (row : List Item) : (textR g (row.filter isR)).length = ((regsOf row).map fun r => (g r).length).sum := by
  unfold textR
  rw [glue_eq, text_late]
theorem holdL_len (p : Pg) (nm : Str) : ∀ (rs : List Nat) (s : Int) (g : Str → Str), (fun r => (holdS (lateP p nm) s g rs r).length) = (rowsR p s rs).foldl (fun c R => stepN R c) fun r => (g r).length
  | [], _, _ => rfl
  | c :: rs, s, g => by
    show (fun r => (holdS (lateP p nm) (p.goal s c) (stepG (lateP p nm) s c g) rs r).length) = (rowsR p (p.goal s c) rs).foldl (fun c R => stepN R c) (stepN (p.row s c) fun r => (g r).length)
    rw [holdL_len p nm rs]
    congr 1
    funext r
    exact textR_late g (p.row s c r)
theorem run_late (p : Pg) (nm : Str) (s : Int) (rs : List Nat) : runS (lateP p nm) s rs = runS p s rs := rfl
theorem ens_late (p : Pg) (nm : Str) : ens (lateP p nm) = ens p := by
  unfold ens lateP
  congr 1
  funext s
  exact Option.isSome_map
theorem enr_late (p : Pg) (nm : Str) (s : Int) : enr (lateP p nm) s = (enr p s).filter isR := by
  unfold enr lateP
  dsimp only
  cases p.en s <;> rfl
theorem usesB_norm (p : Pg) (U : List Str) : ∀ (rs : List Nat) (s : Int), usesB (rowsR (normP p) s rs) U = usesB (rowsR p s rs) U
  | [], _ => rfl
  | c :: rs, s => by
    show usesOf (fun r => joinR (p.row s c r)) (usesB (rowsR (normP p) (p.goal s c) rs) U) = usesOf (p.row s c) (usesB (rowsR p (p.goal s c) rs) U)
    rw [uses_norm, usesB_norm p U rs]
/-- the mark comes out twice -/
theorem mark_two {p : Pg} {x : List Nat × List Nat × Str} (h : TwOk (normP p) x) :
    1 < (textR (holdS (lateP p x.2.2) (runS p 0 x.1) (markF x.2.2) x.2.1) (enr (lateP p x.2.2) (runS p (runS p 0 x.1) x.2.1))).length := by
  have h1 : 1 < (usesB (rowsR (normP p) (runS p 0 x.1) x.2.1) (regsOf (enr (normP p) (runS p (runS p 0 x.1) x.2.1)))).count x.2.2 := h.ct
  rw [usesB_norm, enr_normR, ← sum_one, dual] at h1
  rw [enr_late, textR_late, holdL_len]
  have e : (fun r => (markF x.2.2 r).length) = oneN x.2.2 := funext fun r => mark_len _ r
  rw [e]
  exact h1
/-- how long what is held gets -/
theorem late_row {p : Pg} (c : PgC p) {nm : Str} {N : Nat} {g : Str → Str} (hg : ∀ r ∈ p.regs, (g r).length ≤ N) {row : List Item} (b : RowB p.regs 5 row) :
    (row.filter isR).length ≤ 5 ∧ (∀ r, .inr r ∈ row.filter isR → r ∈ p.regs) ∧ (((row.filter isR).map (itemS g)).map (·.length)).sum ≤ 5 * N := by
  have h1 : (row.filter isR).length ≤ 5 := Nat.le_trans (List.length_filter_le _ _) b.len
  have h2 : ∀ r, .inr r ∈ row → r ∈ p.regs := fun r hr => by
    rcases b.it _ hr with ⟨s, _, e⟩ | ⟨r2, hm, e⟩
    · cases e
    · cases e
      exact hm
  refine ⟨h1, fun r hr => h2 r (List.mem_filter.mp hr).1, ?_⟩
  rw [text_late]
  have h3 : (regsOf row).length ≤ 5 := Nat.le_trans (regsOf_len _) b.len
  have h4 : ((regsOf row).map fun r => (g r).length).sum ≤ (regsOf row).length * N := sum_le fun r hr => by
    obtain ⟨i, hi, e⟩ := List.mem_filterMap.mp hr
    cases i with
    | inl s => cases e
    | inr r2 =>
      cases e
      exact hg _ (h2 _ hi)
  exact Nat.le_trans h4 (Nat.mul_le_mul_right _ h3)
end K02
set_option Elab.async false
set_option linter.all false
set_option maxRecDepth 100000
set_option maxHeartbeats 4000000
/-! Sets of pairs of an int and a tuple of texts. -/
namespace K02
open PySem PySem.Spec PyProof.Rows
open L2 (TabOk MaskOk way nth runAt adv go_spec slot_live mask_odd sameMem nth_add wp_if_pos wp_if_neg relaid_ok size_20 size_76 searchRest setSearchFrom_succ setAddHashedIn_succ setRelay_eq store_at put_perm)
section
variable {P : Program} {w : World} {A : Around} {E : Value → Shared → Prop} {s : Shared}
abbrev IsN (P : Program) (w : World) (h : Heap) (p : Pr) (a : Addr) : Prop := (nestedKind P w).is h (nk p) a
abbrev hN (P : Program) (w : World) (p : Pr) : Int := (nestedKind P w).hash (nk p)
/-! ### small questions -/
theorem ofA_str (n : Nat) (x : Str) (t : Tok) : ofAClassStatement n (.str x t) = pure false := by cases n <;> rfl
theorem ofA_int (n : Nat) (i : Int) (t : Tok) : ofAClassStatement n (.int i t) = pure false := by cases n <;> rfl
/-- a tuple of what is of no class statement -/
theorem ofA_seq {b : Addr} {o : Obj} {vs : Array Value} {n m : Nat} {Q : Bool → Shared → Prop} (ho : s.heap.get? b = some o) (hc : o.cls = .type "tuple") (hd : o.data = .seq vs m)
    (hall : ∀ v ∈ vs.toList, ∀ Q' : Bool → Shared → Prop, Q' false s → wpAny (model P w) A (ofAClassStatement n v) Q' E s) (h : Q false s) : wpAny (model P w) A (ofAClassStatement (n + 1) (.ref b)) Q E s := by
  have hT : s.TypeIs (.ref b) "tuple" := ⟨o, ho, hc⟩
  unfold ofAClassStatement
  refine wpAny_bind (wpAny_typeOf hT ?_)
  dsimp only
  have e : (("tuple" : String) == "tuple") = true := by decide
  simp only [e, if_true, Bool.not_true, Bool.false_eq_true, if_false]
  try refine wpAny_bind (wpAny_pure ?_)
  try simp only [Bool.not_true, Bool.false_eq_true, if_false]
  show wpAny _ _ (seqItems? (.ref b) >>= _) _ _ s
  refine wpAny_bind (wpAny_seqItems ho hd ?_)
  dsimp only
  refine wpAny_bind ?_
  show wpAny _ _ (forIn vs _ _) _ _ s
  rw [← Array.forIn_toList]
  refine wpAny_forIn_list _ (fun rest r s' => r.1 = none ∧ s' = s ∧ ∀ v ∈ rest, v ∈ vs.toList) _ ?_ ?_ _ _ ⟨rfl, rfl, fun v hv => hv⟩
  · rintro v rest r s' ⟨hr, rfl, hin⟩
    refine wpAny_bind (hall v (hin v List.mem_cons_self) _ ?_)
    simp only [Bool.false_eq_true, if_false]
    exact wpAny_pure ⟨rfl, rfl, fun u hu' => hin u (List.mem_cons_of_mem _ hu')⟩
  · rintro ⟨r1, r2⟩ s' ⟨hr, rfl, _⟩
    simp only at hr
    subst hr
    exact wpAny_pure h
theorem texts_of {h : Heap} : ∀ {ns : List Str} {vs : List Value}, NestedAll h (ns.map .text) vs → ∀ v ∈ vs, ∃ x t, v = Value.str x t
  | [], _, hx, v, hv => by
    cases hx
    cases hv
  | n :: ns, _, hx, v, hv => by
    rw [List.map_cons] at hx
    cases hx with
    | cons x1 x2 =>
      rcases List.mem_cons.mp hv with e | hv
      · cases x1
        exact ⟨_, _, e⟩
      · exact texts_of x2 v hv
/-- the two tuples of a pair -/
theorem isN_open {h : Heap} {p : Pr} {a : Addr} (x : IsN P w h p a) : ∃ o vs m v0 b o2 ws m2, h.get? a = some o ∧ o.cls = .type "tuple" ∧ o.data = .seq vs m ∧ vs.toList = [v0, .ref b] ∧ ((∃ i t, v0 = Value.int i t) ∨ ∃ c, v0 = Value.bool c) ∧
    h.get? b = some o2 ∧ o2.cls = .type "tuple" ∧ o2.data = .seq ws m2 ∧ ∀ v ∈ ws.toList, ∃ y t, v = Value.str y t := by
  obtain ⟨x, _⟩ := x
  unfold nk at x
  cases x with
  | @tup _ o vs m _ h1 h2 h3 h4 =>
    generalize hl : vs.toList = l at h4
    cases h4 with
    | @cons _ v0 _ _ c1 c2 =>
      cases c2 with
      | @cons _ v1 _ _ c3 c4 =>
        cases c4
        cases c3 with
        | @tup b o2 ws m2 _ g1 g2 g3 g4 =>
          refine ⟨o, vs, m, v0, b, o2, ws, m2, h1, h2, h3, hl, ?_, g1, g2, g3, texts_of g4⟩
          cases c1 with
          | bool _ => exact .inr ⟨_, rfl⟩
          | int _ t => exact .inl ⟨_, t, rfl⟩
theorem ofA_pr {p : Pr} {a : Addr} {Q : Bool → Shared → Prop} (x : IsN P w s.heap p a) (h : Q false s) : wpAny (model P w) A (ofAClassStatement 8 (.ref a)) Q E s := by
  obtain ⟨o, vs, m, v0, b, o2, ws, m2, h1, h2, h3, h4, h5, g1, g2, g3, g4⟩ := isN_open x
  refine ofA_seq h1 h2 h3 (fun v hv Q' hq => ?_) h
  rw [h4] at hv
  rcases List.mem_cons.mp hv with e | hv
  · subst e
    rcases h5 with ⟨i, t, rfl⟩ | ⟨c, rfl⟩
    · rw [ofA_int]
      exact wpAny_pure hq
    · exact wpAny_pure hq
  · rw [List.mem_singleton.mp hv]
    refine ofA_seq g1 g2 g3 (fun v hv Q2 hq2 => ?_) hq
    obtain ⟨y, t, rfl⟩ := g4 v hv
    rw [ofA_str]
    exact wpAny_pure hq2
/-- a search among pairs shows nothing -/
theorem seen_pr {p : Pr} {a : Addr} {Q : Bool → Shared → Prop} (hk : IsN P w s.heap p a) {ys : List Value} (hy : ∀ y ∈ ys, ∃ k' c, y = Value.ref c ∧ IsN P w s.heap k' c) (h : Q false s) :
    wpAny (model P w) A (searchCouldBeSeen (.ref a) ys) Q E s := by
  unfold searchCouldBeSeen
  refine wpAny_bind ?_
  refine wpAny_forIn_list _ (fun rest r s' => r.1 = none ∧ s' = s ∧ ∀ y ∈ rest, ∃ k' c, y = Value.ref c ∧ IsN P w s.heap k' c) _ ?_ ?_ _ _ ⟨rfl, rfl, hy⟩
  · rintro v rest r s' ⟨hr, rfl, hall⟩
    obtain ⟨k', c, rfl, hc⟩ := hall v List.mem_cons_self
    have more : ∀ y ∈ rest, ∃ k' c, y = Value.ref c ∧ IsN P w s'.heap k' c := fun u hu' => hall u (List.mem_cons_of_mem _ hu')
    dsimp only
    by_cases hv : (a == c || (carriedByValue (.ref a) && carriedByValue (.ref c))) = true
    · exact wp_if_pos hv (wpAny_pure ⟨rfl, rfl, more⟩)
    · refine wp_if_neg hv ?_
      refine wpAny_bind ((nestedKind P w).quiet hk ?_)
      simp only [Bool.not_true, Bool.false_eq_true, if_false]
      refine wpAny_bind ((nestedKind P w).quiet hc ?_)
      simp only [Bool.not_true, Bool.false_eq_true, if_false]
      refine wpAny_bind (ofA_pr hk ?_)
      simp only [Bool.false_eq_true, if_false]
      refine wpAny_bind (ofA_pr hc ?_)
      simp only [Bool.false_eq_true, if_false]
      exact wpAny_pure ⟨rfl, rfl, more⟩
  · rintro ⟨r1, r2⟩ s' ⟨hr, rfl, _⟩
    simp only at hr
    subst hr
    exact wpAny_pure h
theorem isN_same {h h' : Heap} {key : Pr} {a b : Addr} {ob0 : Obj} {rw0 : Array (Int × Value)} {ver : Nat} {tb : SetTable} (jb : IsN P w h key b) (jo : h.get? a = some ob0) (jd : ob0.data = .set rw0 ver tb) (sbt : Heap.SameBut a h h') : IsN P w h' key b :=
  nestedKind_stays.stays (fun c o2 vs n h1 h2 => (sbt.2 c fun e => by
    subst e
    rw [jo] at h1
    cases h1
    rw [jd] at h2
    cases h2).trans h1) jb
theorem sameMemK (tb : SetTable) : tb.sameMemory tb.moves tb.mask = some true := by
  unfold SetTable.sameMemory
  rw [if_pos (beq_self_eq_true _)]
theorem hashBy_seq {b : Addr} {o : Obj} {vs : Array Value} {n m : Nat} {Q : Bool → Shared → Prop} (ho : s.heap.get? b = some o) (hc : o.cls = .type "tuple") (hd : o.data = .seq vs m)
    (hall : ∀ v ∈ vs.toList, ∀ Q' : Bool → Shared → Prop, (∀ c, Q' c s) → wpAny (model P w) A (hashByValue n v) Q' E s) (h : ∀ c, Q c s) : wpAny (model P w) A (hashByValue (n + 1) (.ref b)) Q E s := by
  have hT : s.TypeIs (.ref b) "tuple" := ⟨o, ho, hc⟩
  unfold hashByValue
  refine wpAny_bind (wpAny_specialOf hT F.slot_tuple_hash.lookup ?_)
  show wpAny _ _ (seqItems? (.ref b) >>= _) _ _ s
  refine wpAny_bind (wpAny_seqItems ho hd ?_)
  refine wpAny_bind ?_
  show wpAny _ _ (forIn vs _ _) _ _ s
  rw [← Array.forIn_toList]
  refine wpAny_forIn_list _ (fun rest r s' => r.1 = none ∧ s' = s ∧ ∀ v ∈ rest, v ∈ vs.toList) _ ?_ ?_ _ _ ⟨rfl, rfl, fun v hv => hv⟩
  · rintro v rest r s' ⟨hr, rfl, hin⟩
    refine wpAny_bind (hall v (hin v List.mem_cons_self) _ fun c => ?_)
    cases c
    · simp only [Bool.not_false, if_true]
      exact wpAny_pure (wpAny_pure (h _))
    · simp only [Bool.not_true, Bool.false_eq_true, if_false]
      exact wpAny_pure ⟨rfl, rfl, fun u hu' => hin u (List.mem_cons_of_mem _ hu')⟩
  · rintro ⟨r1, r2⟩ s' ⟨hr, rfl, _⟩
    simp only at hr
    subst hr
    exact wpAny_pure (h _)
theorem hashBy_pr {p : Pr} {a : Addr} {Q : Bool → Shared → Prop} (x : IsN P w s.heap p a) (h : ∀ c, Q c s) : wpAny (model P w) A (hashByValue 8 (.ref a)) Q E s := by
  obtain ⟨o, vs, m, v0, b, o2, ws, m2, h1, h2, h3, h4, h5, g1, g2, g3, g4⟩ := isN_open x
  refine hashBy_seq h1 h2 h3 (fun v hv Q' hq => ?_) h
  rw [h4] at hv
  rcases List.mem_cons.mp hv with e | hv
  · subst e
    rcases h5 with ⟨i, t, rfl⟩ | ⟨c, rfl⟩ <;> exact wpAny_pure (hq _)
  · rw [List.mem_singleton.mp hv]
    refine hashBy_seq g1 g2 g3 (fun v hv Q2 hq2 => ?_) hq
    obtain ⟨y, t, rfl⟩ := g4 v hv
    exact wpAny_pure (hq2 _)
def rowsK (hf : Pr → Int) (B : List (Addr × Pr)) : List (Int × Value) := B.map fun p => (hf p.2, Value.ref p.1)
structure SetK (P : Program) (w : World) (hf : Pr → Int) (h : Heap) (a : Addr) (B : List (Addr × Pr)) (rw0 : Array (Int × Value)) (ver : Nat) (tb : SetTable) : Prop where
  ob : ∃ ob0, h.get? a = some ob0 ∧ ob0.ExactSet ∧ ob0.data = .set rw0 ver tb
  rows : rw0.toList = rowsK hf B
  tab : TabOk tb (B.map fun p => hf p.2)
  nd : (B.map (·.2)).Nodup
  tup : ∀ p ∈ B, IsN P w h p.2 p.1
  led : w.params.followText "set-order" = true ∨ tb.led = true
  room : B.length * 5 < tb.mask * 3
  few : B.length < 64
variable {hf : Pr → Int} {a : Addr} {B : List (Addr × Pr)} {rw0 : Array (Int × Value)} {ver : Nat} {tb : SetTable}
theorem SetK.size (G : SetK P w hf s.heap a B rw0 ver tb) : rw0.size = B.length := by
  have h := congrArg List.length G.rows
  unfold rowsK at h
  rw [Array.length_toList, List.length_map] at h
  exact h
theorem SetK.fits (G : SetK P w hf s.heap a B rw0 ver tb) : tb.fits rw0.size = true := by
  have h1 := G.tab.sz
  rw [List.length_map] at h1
  have h2 := G.size
  have h3 := G.room
  unfold SetTable.fits SetTable.fill
  rw [G.tab.dm, Bool.and_eq_true, beq_iff_eq, decide_eq_true_eq]
  show tb.place.size = rw0.size ∧ tb.place.size + 0 ≤ tb.mask
  omega
theorem SetK.entry (G : SetK P w hf s.heap a B rw0 ver tb) {i : Nat} {p : Addr × Pr} (h : B[i]? = some p) : rw0[i]? = some (hf p.2, Value.ref p.1) := by
  rw [← Array.getElem?_toList, G.rows]
  unfold rowsK
  rw [List.getElem?_map, h] <;> rfl
theorem SetK.gw (G : SetK P w hf s.heap a B rw0 ver tb) : ¬ tb.gaveWay = true := by
  unfold SetTable.gaveWay
  rw [mask_odd G.tab.mok]
  decide
theorem sk_from (G : SetK P w hf s.heap a B rw0 ver tb) {ad : Addr} {key : Pr} (hx : IsN P w s.heap key ad) (hu : (nestedKind P w).room A) {K : Nat} (jKf : K < 10 * SetTable.turns tb.mask)
    (jK : way tb.mask (hf key) K ∉ tb.place.toList) (jKb : ∀ c, c < K → way tb.mask (hf key) c ∈ tb.place.toList) {Z : SetFound → Shared → Prop}
    (jin : key ∈ B.map (·.2) → Z (.there none) s) (jout : key ∉ B.map (·.2) → Z (.free (way tb.mask (hf key) K) false) s) :
    ∀ (f c : Nat) (stand : Option SetTable.Probe), stand.getD (tb.probeStart (hf key)) = nth tb.mask (runAt tb.mask (SetTable.bits (hf key) % (tb.mask + 1)) (SetTable.bits (hf key))) c → c ≤ K → K - c < f →
      (∀ (i : Nat) p, B[i]? = some p → p.2 = key → ∃ c', c ≤ c' ∧ c' < K ∧ tb.place.toList[i]? = some (way tb.mask (hf key) c')) →
      wpAny (model P w) A (setSearchFrom a (.ref ad) (hf key) true f stand) Z E s := by
  intro f
  induction f with
  | zero => exact fun c stand _ _ jf _ => absurd jf (Nat.not_lt_zero _)
  | succ f ih =>
    intro c stand jst hc jf jre
    obtain ⟨ob0, jo, jx, jd⟩ := G.ob
    rw [setSearchFrom_succ]
    refine wpAny_bind (wpAny_setState_of jo jd G.fits ?_)
    dsimp only
    refine wp_if_neg G.gw ?_
    try refine wpAny_bind (wpAny_pure ?_)
    have jnd : (nth tb.mask (runAt tb.mask (SetTable.bits (hf key) % (tb.mask + 1)) (SetTable.bits (hf key))) c).dummy = none := by
      have allq : ∀ (n : Nat) (p : SetTable.Probe), p.dummy = none → (nth tb.mask p n).dummy = none := by
        intro n
        induction n with
        | zero => intro p h; exact h
        | succ n ih =>
          intro p h
          refine ih (adv tb.mask p) ?_
          unfold adv
          split <;> exact h
      exact allq c _ rfl
    have jsh : ∀ q, nth tb.mask (nth tb.mask (runAt tb.mask (SetTable.bits (hf key) % (tb.mask + 1)) (SetTable.bits (hf key))) c) q = nth tb.mask (runAt tb.mask (SetTable.bits (hf key) % (tb.mask + 1)) (SetTable.bits (hf key))) (c + q) := fun q => (nth_add tb.mask c _ q).symm
    have e1 : ∀ q, (nth tb.mask (nth tb.mask (runAt tb.mask (SetTable.bits (hf key) % (tb.mask + 1)) (SetTable.bits (hf key))) c) q).j = way tb.mask (hf key) (c + q) := fun q => congrArg SetTable.Probe.j (jsh q)
    have jspec := go_spec tb G.tab.ris G.tab.dm (fun i => (rw0[i]?.map (·.1)).getD 0) (hf key) (10 * SetTable.turns tb.mask) (K - c) _ jnd (by omega)
      (fun q hq => by rw [e1]; exact jKb (c + q) (by omega)) (by rw [e1, show c + (K - c) = K by omega]; exact jK)
    have jhash : ∀ (i : Nat) p, B[i]? = some p → (fun i => (rw0[i]?.map (·.1)).getD 0) i = hf p.2 := fun i p jp => by
      show (rw0[i]?.map (·.1)).getD 0 = _
      rw [G.entry jp] <;> rfl
    rcases jspec with ⟨q, i, hq, hi, hh, hno, jpr⟩ | ⟨hno, jpr⟩
    · -- a candidate
      have jpr' : tb.probe (fun i => (rw0[i]?.map (·.1)).getD 0) (hf key) (stand.getD (tb.probeStart (hf key))) = some (.candidate (way tb.mask (hf key) (c + q)) i (nth tb.mask (runAt tb.mask (SetTable.bits (hf key) % (tb.mask + 1)) (SetTable.bits (hf key))) (c + (q + 1)))) := by
        rw [jst, ← e1, ← jsh]
        exact jpr
      rw [jpr']
      dsimp only
      rw [e1] at hi
      -- the entry
      have jil : i < B.length := by
        have h1 : i < tb.place.toList.length := (List.getElem?_eq_some_iff.mp hi).1
        have h2 := G.tab.sz
        rw [List.length_map] at h2
        rw [Array.length_toList] at h1
        omega
      have jp : B[i]? = some B[i] := List.getElem?_eq_getElem jil
      generalize hpe : B[i] = p at jp
      have jmem : p ∈ B := List.mem_of_getElem? jp
      have hpt := G.tup p jmem
      have nkq : decide (nk p.2 = nk key) = decide (p.2 = key) := decide_eq_decide.mpr ⟨nk_inj, congrArg nk⟩
      have rest : wpAny (model P w) A (searchRest a (.ref ad) (hf key) true f rw0 tb (way tb.mask (hf key) (c + q)) i (nth tb.mask (runAt tb.mask (SetTable.bits (hf key) % (tb.mask + 1)) (SetTable.bits (hf key))) (c + (q + 1)))) Z E s := by
        unfold searchRest
        rw [G.entry jp]
        dsimp only
        refine wpAny_bind (wpAny_holding ((nestedKind P w).eqBool hu hpt hx (nkq.symm ▸ ?_)))
        refine wpAny_bind (wpAny_setState_of jo jd G.fits ?_)
        dsimp only
        by_cases jkk : p.2 = key
        · refine wp_if_pos (by simp [jkk]) ?_
          refine wpAny_pure (jin ?_)
          exact List.mem_map.mpr ⟨p, jmem, jkk⟩
        · refine wp_if_neg (by simp [jkk]) ?_
          try refine wpAny_bind (wpAny_pure ?_)
          rw [sameMemK]
          dsimp only
          have jsl : tb.slot (way tb.mask (hf key) (c + q)) = .live i := slot_live G.tab.ris hi
          simp only [if_true, jsl, G.entry jp]
          refine wpAny_bind (wpAny_isSame_ref_self (wpAny_bind (wpAny_pure ?_)))
          simp only [if_true]
          refine wp_if_neg (by simp [jkk]) ?_
          refine ih (c + (q + 1)) _ rfl (by omega) (by omega) fun j0 c0 g0 gk0 => ?_
          obtain ⟨c', y1, y2, y3⟩ := jre j0 c0 g0 gk0
          refine ⟨c', ?_, y2, y3⟩
          -- it isn't passed
          rcases Nat.lt_or_ge c' (c + q) with z | z
          · exfalso
            refine hno (c' - c) j0 (by omega) (by rw [e1, show c + (c' - c) = c' by omega]; exact y3) ?_
            exact (jhash j0 c0 g0).trans (congrArg hf gk0)
          · rcases Nat.lt_or_ge (c + q) c' with y | y
            · omega
            · exfalso
              have ec : c' = c + q := Nat.le_antisymm y z
              rw [ec] at y3
              have s0 := slot_live G.tab.ris y3
              rw [jsl] at s0
              injection s0 with s0
              rw [← s0, jp] at g0
              exact jkk ((congrArg Prod.snd (Option.some.inj g0)).trans gk0)
      by_cases hl : tb.led = true
      · refine wp_if_neg (by simp [hl]) ?_
        try refine wpAny_bind (wpAny_pure ?_)
        exact rest
      · refine wp_if_pos (by simp [hl]) ?_
        refine wpAny_bind (seen_pr hx (fun y hy => ?_) ?_)
        · obtain ⟨e, he, ee⟩ := List.mem_map.mp hy
          have he1 : e ∈ rw0 ∧ e.1 = hf key := by simpa using he
          have he2 : e ∈ rw0.toList := by simpa using he1.1
          rw [G.rows] at he2
          obtain ⟨p2, hp2, e2⟩ := List.mem_map.mp he2
          refine ⟨p2.2, p2.1, ?_, G.tup p2 hp2⟩
          rw [← ee, ← e2]
        · refine wp_if_neg (by decide) ?_
          try refine wpAny_bind (wpAny_pure ?_)
          exact rest
    · -- the empty slot
      have jpr' : tb.probe (fun i => (rw0[i]?.map (·.1)).getD 0) (hf key) (stand.getD (tb.probeStart (hf key))) = some (.empty (way tb.mask (hf key) K) none) := by
        have e2 : way tb.mask (hf key) K = (nth tb.mask (nth tb.mask (runAt tb.mask (SetTable.bits (hf key) % (tb.mask + 1)) (SetTable.bits (hf key))) c) (K - c)).j := by
          rw [e1, show c + (K - c) = K by omega]
        rw [jst, e2]
        exact jpr
      rw [jpr']
      dsimp only
      refine wpAny_pure (jout fun hm => ?_)
      obtain ⟨c0, g0, gk0⟩ := List.mem_map.mp hm
      obtain ⟨j0, gi0, ge0⟩ := List.getElem_of_mem g0
      have g00 : B[j0]? = some c0 := by rw [List.getElem?_eq_getElem gi0, ge0]
      obtain ⟨c', y1, y2, y3⟩ := jre j0 c0 g00 gk0
      refine hno (c' - c) j0 (by omega) (by rw [e1, show c + (c' - c) = c' by omega]; exact y3) ?_
      exact (jhash j0 c0 g00).trans (congrArg hf gk0)

theorem sk_at (G : SetK P w hf s.heap a B rw0 ver tb) {ad : Addr} {key : Pr} (hx : IsN P w s.heap key ad) (hu : (nestedKind P w).room A) {Z : SetFound → Shared → Prop}
    (jin : key ∈ B.map (·.2) → Z (.there none) s)
    (jout : ∀ K, key ∉ B.map (·.2) → way tb.mask (hf key) K ∉ tb.place.toList → (∀ c, c < K → way tb.mask (hf key) c ∈ tb.place.toList) → Z (.free (way tb.mask (hf key) K) false) s) :
    wpAny (model P w) A (setSearch a (.ref ad) (hf key) true) Z E s := by
  have jroom := G.room
  obtain ⟨K, jKf, jK, jKb⟩ := G.tab.first (by rw [List.length_map]; omega) (hf key)
  have hbig : K < 100000 := by
    have : 10 * SetTable.turns tb.mask ≤ 1420 := by
      unfold SetTable.turns
      rcases G.tab.mok with e | e | e <;> omega
    omega
  unfold setSearch
  refine sk_from G hx hu jKf jK jKb jin (fun hn => jout K hn jK jKb) 100000 0 none rfl (Nat.zero_le _) (by omega) fun i p jp hk => ?_
  have hi : (B.map fun p => hf p.2)[i]? = some (hf key) := by rw [List.getElem?_map, jp, ← hk] <;> rfl
  have jil : i < tb.place.toList.length := by
    have h1 : i < B.length := (List.getElem?_eq_some_iff.mp jp).1
    have h2 := G.tab.sz
    rw [List.length_map] at h2
    rw [Array.length_toList]
    omega
  have hj := List.getElem?_eq_getElem jil
  obtain ⟨c, hc, e⟩ := G.tab.before jK hi hj
  exact ⟨c, Nat.zero_le _, hc, by rw [hj, e]⟩
theorem sk_put (B : List (Addr × Pr)) (p : Nat) (ad : Addr) (key : Pr) : rowsK hf (B.take p ++ (ad, key) :: B.drop p) = (rowsK hf B).take p ++ (hf key, Value.ref ad) :: (rowsK hf B).drop p := by
  unfold rowsK
  rw [List.map_append, List.map_cons, List.map_take, List.map_drop]
theorem sk_order (B : List (Addr × Pr)) (rw0 : Array (Int × Value)) (ord : Array Nat) (jr : rw0.toList = rowsK hf B) (jp : ord.toList.Perm (List.range B.length)) :
    ∃ B2, (ord.filterMap (rw0[·]?)).toList = rowsK hf B2 ∧ B2.Perm B ∧ (B2.map fun p => hf p.2) = ord.toList.map fun i => (rw0.map (·.1)).getD i 0 := by
  have jsz : rw0.size = B.length := by
    have h := congrArg List.length jr
    unfold rowsK at h
    rw [Array.length_toList, List.length_map] at h
    exact h
  have ent : ∀ i (h : i < B.length), rw0[i]? = some (hf (B[i]).2, Value.ref (B[i]).1) := fun i h => by
    rw [← Array.getElem?_toList, jr]
    unfold rowsK
    rw [List.getElem?_map, List.getElem?_eq_getElem h] <;> rfl
  have allq : ∀ l : List Nat, (∀ i ∈ l, i < B.length) → ∃ B2 : List (Addr × Pr), l.filterMap (fun i => rw0[i]?) = rowsK hf B2 ∧ B2 = l.filterMap (fun i => B[i]?) ∧ (B2.map fun p => hf p.2) = l.map fun i => (rw0.map (·.1)).getD i 0 := by
    intro l
    induction l with
    | nil => intro _; exact ⟨[], rfl, rfl, rfl⟩
    | cons i l ih =>
      intro hl
      have hi := hl i List.mem_cons_self
      obtain ⟨B2, e1, e2, e3⟩ := ih fun j hj => hl j (List.mem_cons_of_mem _ hj)
      refine ⟨B[i] :: B2, ?_, ?_, ?_⟩
      · rw [List.filterMap_cons_some (ent i hi), e1] <;> rfl
      · rw [List.filterMap_cons_some (List.getElem?_eq_getElem hi), e2]
      · rw [List.map_cons, List.map_cons, e3]
        have hi2 : i < (rw0.map (·.1)).size := by rw [Array.size_map, jsz]; exact hi
        have e4 : (rw0.map (·.1)).getD i 0 = hf (B[i]).2 := by
          have e5 : (rw0.map (·.1))[i]? = some (hf (B[i]).2) := by rw [Array.getElem?_map, ent i hi] <;> rfl
          simp [Array.getD_eq_getD_getElem?, e5]
        rw [e4]
  obtain ⟨B2, e1, e2, e3⟩ := allq ord.toList fun i hi => List.mem_range.mp (jp.mem_iff.mp hi)
  refine ⟨B2, by first | (rw [Array.toList_filterMap]; exact e1) | simpa using e1, ?_, e3⟩
  have h1 : B2.Perm ((List.range B.length).filterMap fun i => B[i]?) := by
    rw [e2]
    exact jp.filterMap _
  have h2 : (List.range B.length).filterMap (fun i => B[i]?) = B := by
    have key2 : ∀ n, n ≤ B.length → (List.range n).filterMap (fun i => B[i]?) = B.take n := by
      intro n
      induction n with
      | zero => intro _; rfl
      | succ n ih =>
        intro hn
        have hlt : n < B.length := hn
        rw [List.range_succ, List.filterMap_append, ih (Nat.le_of_lt hlt), List.take_succ, List.getElem?_eq_getElem hlt]
        rw [List.filterMap_cons_some (List.getElem?_eq_getElem hlt)] <;> rfl
    rw [key2 B.length (Nat.le_refl _), List.take_length]
  rw [h2] at h1
  exact h1

theorem sk_relay {ob0 : Obj} (jo : s.heap.get? a = some ob0) (jx : ob0.ExactSet) (jd : ob0.data = .set rw0 ver tb) (hrows : rw0.toList = rowsK hf B) (jsz : tb.place.size = rw0.size) (hdm : tb.dummies = #[]) (hfl : rw0.size ≤ tb.mask)
    (nd : (B.map (·.2)).Nodup) (tup : ∀ p ∈ B, IsN P w s.heap p.2 p.1) (ld : w.params.followText "set-order" = true ∨ tb.led = true) (few : B.length < 64) {wanted M : Nat}
    (hw : SetTable.sizeAbove wanted - 1 = M) (hM : MaskOk M) (hw2 : SetTable.sizeAbove wanted ≤ 128) (hn : B.length * 5 < M * 3) {Z : Unit → Shared → Prop}
    (hQ : ∀ h' B' rw0' ver' tb', Heap.SameBut a s.heap h' → SetK P w hf h' a B' rw0' ver' tb' → B'.Perm B → Z () { s with heap := h' }) : wpAny (model P w) A (setRelay a wanted) Z E s := by
  have jsl : rw0.size = B.length := by
    have h := congrArg List.length hrows
    unfold rowsK at h
    rw [Array.length_toList, List.length_map] at h
    exact h
  have hfits : tb.fits rw0.size = true := by
    unfold SetTable.fits SetTable.fill
    rw [hdm, Bool.and_eq_true, beq_iff_eq, decide_eq_true_eq]
    show tb.place.size = rw0.size ∧ tb.place.size + 0 ≤ tb.mask
    omega
  obtain ⟨tb', ord, e, jp, T, em, el, ver', ed⟩ := relaid_ok tb (hs := rw0.map (·.1)) (wanted := wanted) hw hM (by rw [Array.size_map, jsl]; omega)
  rw [Array.size_map, jsl] at jp
  obtain ⟨B2, r1, r2, r3⟩ := sk_order B rw0 ord hrows jp
  rw [← r3] at T
  have hs2 : (ord.filterMap (rw0[·]?)).size = rw0.size := by
    have h := congrArg List.length r1
    unfold rowsK at h
    rw [Array.length_toList, List.length_map, r2.length_eq] at h
    rw [h, jsl]
  rw [setRelay_eq]
  refine wpAny_bind (wpAny_setState_of jo jd hfits ?_)
  dsimp only
  refine wp_if_neg (by rw [sizeLine_eq]; omega) ?_
  try refine wpAny_bind (wpAny_pure ?_)
  rw [e]
  dsimp only
  refine wpAny_bind ?_
  refine wp_if_neg (by rw [hs2]; simp) ?_
  try refine wpAny_bind (wpAny_pure ?_)
  refine wpAny_pure ?_
  dsimp only
  refine wpAny_storeSet_of jo jd ?_ (by rw [hs2, jsl, sizeLine_eq]; omega)
  have sbt : Heap.SameBut a s.heap (s.heap.update a (Obj.putSet (ord.filterMap (rw0[·]?)) tb')) := Heap.SameBut.update ..
  refine hQ _ B2 (ord.filterMap (rw0[·]?)) (ver + 1) tb' sbt ?_ r2
  refine ⟨⟨_, store_at jo jd, ⟨jx.1, jx.2.1, jx.2.2⟩, rfl⟩, r1, T, ?_, fun p hpm => isN_same (tup p (r2.mem_iff.mp hpm)) jo jd sbt, by rw [el]; exact ld, ?_, by rw [r2.length_eq]; exact few⟩
  · exact (r2.map (·.2)).nodup_iff.mpr nd
  · rw [r2.length_eq, em]
    exact hn

theorem sk_add (G : SetK P w hf s.heap a B rw0 ver tb) {ad : Addr} {key : Pr} (hx : IsN P w s.heap key ad) (hu : (nestedKind P w).room A) (jfew : B.length + 1 < 64) {Z : Bool → Shared → Prop}
    (hQ : ∀ b h' B' rw0' ver' tb', Heap.SameBut a s.heap h' → SetK P w hf h' a B' rw0' ver' tb' → (key ∈ B.map (·.2) → B' = B) → (key ∉ B.map (·.2) → B'.Perm ((ad, key) :: B)) → Z b { s with heap := h' }) :
    wpAny (model P w) A (setAddHashed a (.ref ad) (hf key)) Z E s := by
  obtain ⟨ob0, jo, jx, jd⟩ := G.ob
  have jsl := G.size
  have jroom := G.room
  unfold setAddHashed
  refine wpAny_holding ?_
  rw [show (100000 : Nat) = 99999 + 1 from rfl, setAddHashedIn_succ]
  refine wpAny_bind (wpAny_setState_of jo jd G.fits ?_)
  dsimp only
  refine wp_if_neg (by simp [byScan, Value.scannable]) ?_
  try refine wpAny_bind (wpAny_pure ?_)
  refine wpAny_bind (sk_at G hx hu (fun hm => ?_) fun K hm jK hb => ?_)
  · dsimp only
    exact wpAny_pure (hQ false s.heap B rw0 ver tb (Heap.SameBut.refl a s.heap) G (fun _ => rfl) fun z => absurd hm z)
  · dsimp only
    refine wpAny_bind (wpAny_setState_of jo jd G.fits ?_)
    dsimp only
    obtain ⟨q1, q2, q3, q4, q5, q6, q7, q8, q9⟩ := G.tab.put jK hb
    generalize hpt : tb.put (way tb.mask (hf key) K) = pt at q1 q3 q4 q5 q6 q7 q8 q9 ⊢
    obtain ⟨tb1, p⟩ := pt
    dsimp only at q1 q3 q4 q5 q6 q7 q8 q9 ⊢
    subst q1
    have jin : (SetTable.insertAt rw0 (SetTable.below tb.place (way tb.mask (hf key) K)) (hf key, Value.ref ad)).toList = rowsK hf (B.take (SetTable.below tb.place (way tb.mask (hf key) K)) ++ (ad, key) :: B.drop (SetTable.below tb.place (way tb.mask (hf key) K))) := by
      rw [SetTable.toList_insertAt, sk_put, G.rows]
    generalize hpp : SetTable.below tb.place (way tb.mask (hf key) K) = p at q2 q3 jin ⊢
    have pq := put_perm B p (ad, key)
    have jlen : (B.take p ++ (ad, key) :: B.drop p).length = B.length + 1 := pq.length_eq
    have jhs : (B.take p ++ (ad, key) :: B.drop p).map (fun p => hf p.2) = (B.map fun p => hf p.2).take p ++ hf key :: (B.map fun p => hf p.2).drop p := by
      rw [List.map_append, List.map_cons, List.map_take, List.map_drop]
    rw [← jhs] at q3
    have nd1 : ((B.take p ++ (ad, key) :: B.drop p).map (·.2)).Nodup := by
      refine (pq.map (·.2)).nodup_iff.mpr ?_
      rw [List.map_cons]
      exact List.nodup_cons.mpr ⟨hm, G.nd⟩
    have jes : (SetTable.insertAt rw0 p (hf key, Value.ref ad)).size = B.length + 1 := by
      have h := congrArg List.length jin
      unfold rowsK at h
      rw [Array.length_toList, List.length_map, jlen] at h
      exact h
    generalize SetTable.insertAt rw0 p (hf key, Value.ref ad) = rw1 at jin jes ⊢
    generalize B.take p ++ (ad, key) :: B.drop p = B1 at pq jlen q3 nd1 jin
    have last : ∀ T1 : SetTable, TabOk T1 (B1.map fun p => hf p.2) → T1.mask = tb.mask → T1.led = tb.led → T1.fill = B.length + 1 →
        wpAny (model P w) A (storeSet a rw1 T1 >>= fun _ => if (!false && T1.tooFull) = true then setRelay a (SetTable.grown (rw0.size + 1)) >>= fun _ => pure true else pure true) Z E s := fun T1 k1 k2 k3 k4 => by
      refine wpAny_bind (wpAny_storeSet_of jo jd ?_ (by rw [jes, sizeLine_eq]; omega))
      have sbt : Heap.SameBut a s.heap (s.heap.update a (Obj.putSet rw1 T1)) := Heap.SameBut.update ..
      have jo1 := store_at (es' := rw1) (t' := T1) jo jd
      generalize s.heap.update a (Obj.putSet rw1 T1) = h1 at sbt jo1 ⊢
      have tup1 : ∀ p ∈ B1, IsN P w h1 p.2 p.1 := fun p jp => by
        rcases List.mem_cons.mp (pq.mem_iff.mp jp) with e | jp
        · rw [e]; exact isN_same hx jo jd sbt
        · exact isN_same (G.tup p jp) jo jd sbt
      have ld1 : w.params.followText "set-order" = true ∨ T1.led = true := by rw [k3]; exact G.led
      have full : T1.tooFull = decide ((B.length + 1) * 5 ≥ tb.mask * 3) := by
        unfold SetTable.tooFull
        rw [k4, k2]
      by_cases jf : T1.tooFull = true
      · refine wp_if_pos (by simp [jf]) ?_
        refine wpAny_bind ?_
        have hfull : (B.length + 1) * 5 ≥ tb.mask * 3 := of_decide_eq_true (full ▸ jf)
        rw [jsl]
        have hsz1 : T1.place.size = rw1.size := by
          have h := k1.sz
          rw [List.length_map, jlen] at h
          rw [h, jes]
        have two : (tb.mask = 7 ∧ B.length = 4) ∨ (tb.mask = 31 ∧ B.length = 18) := by
          rcases G.tab.mok with e | e | e
          · left; rw [e] at hfull jroom; exact ⟨e, by omega⟩
          · right; rw [e] at hfull jroom; exact ⟨e, by omega⟩
          · exfalso; rw [e] at hfull; omega
        have go : ∀ M, SetTable.sizeAbove (SetTable.grown (B.length + 1)) - 1 = M → MaskOk M → SetTable.sizeAbove (SetTable.grown (B.length + 1)) ≤ 128 → (B.length + 1) * 5 < M * 3 →
            wpAny (model P w) A (setRelay a (SetTable.grown (B.length + 1))) (fun _ s' => wpAny (model P w) A (pure true) Z E s') E { s with heap := h1 } := fun M g1 g2 g3 g4 => by
          refine sk_relay (s := { s with heap := h1 }) jo1 ⟨jx.1, jx.2.1, jx.2.2⟩ rfl jin hsz1 k1.dm (by rw [jes, k2]; rcases two with ⟨e, e2⟩ | ⟨e, e2⟩ <;> omega) nd1 tup1 ld1 (by rw [jlen]; exact jfew) g1 g2 g3 (by rw [jlen]; exact g4) ?_
          intro h2 B2 rw2 ver2 tb2 sb2 G2 pm2
          exact wpAny_pure (hQ true h2 B2 rw2 ver2 tb2 (sbt.trans sb2) G2 (fun z => absurd z hm) fun _ => pm2.trans pq)
        rcases two with ⟨_, e2⟩ | ⟨_, e2⟩
        · exact go 31 (by rw [e2, size_20]) (.inr (.inl rfl)) (by rw [e2, size_20]; decide) (by omega)
        · exact go 127 (by rw [e2, size_76]) (.inr (.inr rfl)) (by rw [e2, size_76]; decide) (by omega)
      · refine wp_if_neg (by simp [jf]) ?_
        refine wpAny_pure (hQ true h1 B1 rw1 (ver + 1) T1 sbt ⟨⟨_, jo1, ⟨jx.1, jx.2.1, jx.2.2⟩, rfl⟩, jin, k1, nd1, tup1, ld1, ?_, by rw [jlen]; exact jfew⟩ (fun z => absurd z hm) fun _ => pq)
        rw [full, decide_eq_true_eq] at jf
        rw [jlen, k2]
        omega
    have e9 : tb1.fill = B.length + 1 := by rw [q9, List.length_map]
    by_cases pl : tb1.plain = true
    · refine wp_if_pos pl (wpAny_bind (hashBy_pr hx fun b => ?_))
      cases b
      · exact last { tb1 with plain := false } ⟨q3.1, q3.2, q3.3, q3.4, q3.5, q3.6⟩ q4 q5 e9
      · exact last tb1 q3 q4 q5 e9
    · refine wp_if_neg pl (wpAny_bind (wpAny_pure ?_))
      exact last tb1 q3 q4 q5 e9
end
end K02
set_option Elab.async false
set_option linter.all false
set_option maxRecDepth 100000
set_option maxHeartbeats 4000000
/-! Sets of pairs as rules: made of a list, sorted. -/
namespace K02
open PySem PySem.Spec PyProof.Rows L2 PySem.W
/-- where a pair's tuple stands, the pair -/
abbrev Apr := Addr × Pr
def SkR (P : Program) (w : World) (a : Addr) (L : List Apr) (h : Heap) : Prop := ∃ o es ep t, h.get? a = some o ∧ o.ExactSet ∧ o.data = .set es ep t ∧ es.toList = rowsK (hN P w) L ∧ es.size < 64 ∧ t.fits es.size = true ∧ Ris t.place.toList ∧ (w.params.followText "set-order" = true ∨ t.led = true)
def SkO (P : Program) (w : World) (a : Addr) (L : List Apr) : HO := .ext (SkR P w a L)
theorem skO_new {P : Program} {w : World} {H : Hp} {h : Heap} {a : Addr} {L : List Apr} (R : SkR P w a L h) : ObjOk P w H h a (SkO P w a L) := by
  have ⟨o, es, ep, t, ho, r⟩ := R
  refine ⟨R, ⟨o, ho⟩, fun h1 h2 ⟨o, es, ep, t, ho, r⟩ k => ⟨o, es, ep, t, k o ho, r⟩⟩
theorem SetK.obj {P : Program} {w : World} {h : Heap} {a : Addr} {L : List Apr} {es : Array (Int × Value)} {ep : Nat} {t : SetTable} (s : Shared) (e : s.heap = h) (G : SetK P w (hN P w) h a L es ep t) : SkR P w a L h := by
  subst e
  obtain ⟨o, ho, hex, hd⟩ := G.ob
  have hf := G.fits
  have hz := G.size
  exact ⟨o, es, ep, t, ho, hex, hd, G.rows, by rw [hz]; exact G.few, hf, G.tab.ris, G.led⟩
/-- what the first i pairs leave -/
structure GotK (P : Program) (w : World) (h0 : Heap) (its : List Apr) (S : Addr) (i : Nat) (h : Heap) : Prop where
  ext : ∀ b o, h0.get? b = some o → h.get? b = some o
  ex : ∃ L es ep t, SetK P w (hN P w) h S L es ep t ∧ (∀ x ∈ L, x ∈ its) ∧ (∀ x ∈ its.take i, x.2 ∈ L.map (·.2)) ∧ L.length ≤ i
theorem isN_ext {P : Program} {w : World} {h0 h : Heap} {p : Pr} {a : Addr} (x : IsN P w h0 p a) (k : ∀ b o, h0.get? b = some o → h.get? b = some o) : IsN P w h p a := nestedKind_stays.stays (fun b o _ _ e _ => k b o e) x
theorem SetK.move {P : Program} {w : World} {h h' : Heap} {a : Addr} {L : List Apr} {es : Array (Int × Value)} {ep : Nat} {t : SetTable} (G : SetK P w (hN P w) h a L es ep t) (k : ∀ o, h.get? a = some o → h'.get? a = some o) (n : ∀ x ∈ L, IsN P w h' x.2 x.1) : SetK P w (hN P w) h' a L es ep t := by
  obtain ⟨o, ho, r⟩ := G.ob
  exact ⟨⟨o, k o ho, r⟩, G.rows, G.tab, G.nd, n, G.led, G.room, G.few⟩
theorem setK_fresh {P : Program} {w : World} {h : Heap} {a : Addr} (ho : h.get? a = some (newSetO w)) : SetK P w (hN P w) h a [] #[] 0 (.fresh 0 0 (!w.params.followText "set-order")) :=
  ⟨⟨_, ho, ⟨rfl, rfl, rfl⟩, rfl⟩, rfl, ⟨List.Pairwise.nil, rfl, rfl, .inl rfl, (fun x hx => by cases hx), fun i h j hi => by simp at hi⟩, List.nodup_nil, (fun p hp => by cases hp), by
    show _ ∨ (!w.params.followText "set-order") = true
    cases w.params.followText "set-order"
    · exact .inr rfl
    · exact .inl rfl, by show 0 * 5 < 7 * 3; decide, by decide⟩
section
variable {P : Program} {w : World} {A : Around}
theorem gotK_add {h0 : Heap} {its : List Apr} {S : Addr} {i : Nat} {x : Apr} (hu : (nestedKind P w).room A) (hS : h0.get? S = none) (hz : its.length < 64) (hx : its[i]? = some x) (is : ∀ y ∈ its, IsN P w h0 y.2 y.1) : JAdd P w A S (GotK P w h0 its S) i (.ref x.1) := fun E s ⟨ext, L, es, ep, t, G, sub, all, le⟩ Q q => by
  have hm := List.mem_of_getElem? hx
  have hi : i < its.length := (List.getElem?_eq_some_iff.mp hx).1
  have isx : IsN P w s.heap x.2 x.1 := isN_ext (is x hm) ext
  unfold setAdd
  refine wpAny_holding (wpAny_bind ((nestedKind P w).pyHash hu isx ?_))
  refine sk_add (s := { s with toks := s.toks + _ }) G isx hu (by omega) fun b h' L' es' ep' t' sb G' e1 e2 => q b h' _ sb (Nat.le_add_right _ _) ⟨fun b o e => ?_, L', es', ep', t', G', ?_, ?_, ?_⟩
  · have hb : b ≠ S := fun z => by
      rw [z, hS] at e
      cases e
    exact (sb.2 b hb).trans (ext b o e)
  all_goals by_cases c : x.2 ∈ L.map (·.2)
  · rw [e1 c]
    exact sub
  · intro y hy
    rcases List.mem_cons.mp ((e2 c).mem_iff.mp hy) with e | hy
    · rw [e]
      exact hm
    · exact sub y hy
  · intro y hy
    rw [take_one hx] at hy
    rw [e1 c]
    rcases List.mem_append.mp hy with hy | hy
    · exact all y hy
    · rw [List.mem_singleton.mp hy]
      exact c
  · intro y hy
    rw [take_one hx] at hy
    rw [((e2 c).map (·.2)).mem_iff, List.map_cons]
    rcases List.mem_append.mp hy with hy | hy
    · exact List.mem_cons_of_mem _ (all y hy)
    · rw [List.mem_singleton.mp hy]
      exact List.mem_cons_self
  · rw [e1 c]
    omega
  · rw [(e2 c).length_eq, List.length_cons]
    omega
end
section
variable {X : Cx}
/-- set(l), l a list of pairs -/
def rSetK (K : PySem.W.Frag) (P : Program) (w : World) : List V → Hp → VK → Prop := fun xs H Q => ∃ (l : Addr) (its : List Apr), xs = [V.ref l] ∧ SqL K H l (its.map fun x => V.ref x.1) ∧ its.length < 64 ∧ (∀ x ∈ its, PrAt H x.1 x.2) ∧
  ∀ p L, H p = none → (L.map (·.2)).Nodup → (∀ x ∈ L, x ∈ its) → (∀ x ∈ its, x.2 ∈ L.map (·.2)) → Q (.ref p) (upd H p (SkO P w p L))
theorem cr_setK (hc : X.calm = true) (hu : X.A.units + 64 < cLine) : CallR X (.type "set") (rSetK X.K X.prog X.w) := by
  intro pins s σ H xs us Q I r h
  obtain ⟨l, its, rfl, hl, hz, hp, q⟩ := h
  rw [Vals.ref1 r]
  obtain ⟨vs, rv, pl, hz2⟩ := I.list hl
  have hn : H s.heap.objs.size = none := I.hok.fresh (Nat.le_refl _)
  have hS : s.heap.get? s.heap.objs.size = none := by
    cases c : s.heap.get? s.heap.objs.size with
    | none => rfl
    | some o => exact absurd (Heap.lt_size c) (Nat.lt_irrefl _)
  have hlen : vs.length = its.length := by rw [← rv.length, List.length_map]
  have is : ∀ y ∈ its, IsN X.prog X.w s.heap y.2 y.1 := fun y hy => prAt_is I.hok (hp y hy)
  refine call_set_G (P := X.prog) (w := X.w) (I.ok.hd hc) pl.isList (GotK X.prog X.w s.heap its s.heap.objs.size) (fun i h h' ⟨ext, L, es, ep, t, G, sub, r2⟩ k => ?_) (fun h ho ext => ⟨ext, [], _, _, _, setK_fresh ho, (fun x hx => by cases hx), (fun x hx => by simp at hx), Nat.le_refl _⟩) (fun i v hv => ?_) fun h' tk ⟨ext, L, es, ep, t, G, sub, all, le⟩ k => ?_
  · have e2 : ∀ b o, s.heap.get? b = some o → h'.get? b = some o := fun b o e => k b o (.inl (by rw [e]; exact fun z => nomatch z)) (ext b o e)
    exact ⟨e2, L, es, ep, t, G.move (fun o e => k _ o (.inr rfl) e) fun x hx => isN_ext (is x (sub x hx)) e2, sub, r2⟩
  · have e1 : vs[i]? = some v := by simpa using hv
    have hi : i < its.length := by rw [← hlen]; exact (List.getElem?_eq_some_iff.mp e1).1
    have e2 : (its.map fun x => V.ref x.1)[i]? = some (V.ref its[i].1) := by rw [List.getElem?_map, List.getElem?_eq_getElem hi]; rfl
    obtain ⟨u, h1, h2⟩ := rv.get e2
    rw [e1] at h1
    cases h1
    obtain rfl : v = Value.ref its[i].1 := h2
    exact gotK_add (show _ + 8 < cLine by simp only [Around.in1_units]; omega) hS hz (List.getElem?_eq_getElem hi) is
  · refine ⟨.ref s.heap.objs.size, _, I.laid (t' := tk) k (Nat.le_refl _) (skO_new (SetK.obj { s with heap := h' } rfl G)), rfl, q _ L hn G.nd sub fun x hx => all x ?_⟩
    rw [List.size_toArray, hlen, List.take_length]
    exact hx
theorem perm_lift {α β : Type} {f : α → β} {out m : List β} (h : out.Perm m) : ∀ l : List α, m = l.map f → ∃ l2 : List α, l2.Perm l ∧ out = l2.map f := by
  induction h with
  | nil =>
    intro l e
    cases l with
    | nil => exact ⟨[], List.Perm.refl _, rfl⟩
    | cons a r => cases e
  | cons x _ ih =>
    intro l e
    cases l with
    | nil => cases e
    | cons a r =>
      rw [List.map_cons] at e
      injection e with e1 e2
      obtain ⟨l2, p, q⟩ := ih r e2
      exact ⟨a :: l2, p.cons a, by rw [List.map_cons, q, e1]⟩
  | swap x y _ =>
    intro l e
    cases l with
    | nil => cases e
    | cons a r =>
      cases r with
      | nil => cases e
      | cons b r =>
        rw [List.map_cons, List.map_cons] at e
        injection e with e1 e2
        injection e2 with e2 e3
        exact ⟨b :: a :: r, List.Perm.swap a b r, by rw [List.map_cons, List.map_cons, e1, e2, e3]⟩
  | trans _ _ ih1 ih2 =>
    intro l e
    obtain ⟨l2, p2, e2⟩ := ih2 l e
    obtain ⟨l1, p1, e1⟩ := ih1 l2 e2
    exact ⟨l1, p1.trans p2, e1⟩
/-- sorted of it -/
theorem cr_srtK (hc : X.calm = true) (hu : X.A.units + 64 < cLine) : CallR X (.builtin "sorted") (fun xs H Q => ∃ p L, xs = [V.ref p] ∧ Rd H p (SkO X.prog X.w p L) ∧ (∀ x ∈ L, PrAt H x.1 x.2) ∧
    ∀ ys ks q, Paired (fun (x : V) (p : Pr) => ∃ q, x = .ref q ∧ PrAt H q p) ys ks → ks.Perm (L.map (·.2)) → H q = none → Q (.ref q) (upd H q (.lst ys))) := by
  intro pins s σ H xs us Q I r h
  obtain ⟨p, L, rfl, hp, pk, q⟩ := h
  rw [Vals.ref1 r]
  obtain ⟨o, es, ep, t, ho, hex, hd, hr, hb, hf, hs, hl⟩ : SkR X.prog X.w p L s.heap := (show ObjOk X.prog X.w H s.heap p (SkO X.prog X.w p L) from rd_of I.hok hp).1
  have hn : L.length = es.size := by
    have := congrArg List.length hr
    unfold rowsK at this
    rw [Array.length_toList, List.length_map] at this
    exact this.symm
  refine sorted_core (enc := dPr) (R := fun v p => ∃ x, RelV x v ∧ ∃ q, x = .ref q ∧ PrAt H q p) (bs0 := L.map (·.2)) (fun z => z.Perm (L.map (·.2))) (fun z e => e) (fun Q1 E1 h1 => ?_) (pr_alike _) (pr_sortable _) (by rw [List.length_map]; omega) (fun b hb => by have := pr_ddepth b; omega) fun s1 s' p2 out c bs' eb k1 k g o2 hp2 hg e => ?_
  · refine collect_set (A := X.A.in1) (show X.A.in1.handled = none from I.ok.hd hc) ⟨o, ho, hex.1, hd⟩ hf (by unfold scanBound; omega) hs hl fun s1 out k1 hz g1 o1 pm => ?_
    have em : es.toList.map (·.2) = L.map fun x => Value.ref x.1 := by
      rw [hr]
      unfold rowsK
      rw [List.map_map]
      rfl
    rw [em] at pm
    obtain ⟨L2, p2, rfl⟩ := perm_lift pm L rfl
    have pk2 : ∀ x ∈ L2, PrAt H x.1 x.2 := fun x hx => pk x (p2.mem_iff.mp hx)
    have hv : Vals (L2.map fun x => V.ref x.1) (L2.map fun x => Value.ref x.1) := by
      clear pk2 p2 pm h1 hz
      induction L2 with
      | nil => exact .nil
      | cons x r ih => exact .cons rfl ih
    have hR : Paired (fun (x : V) (p : Pr) => ∃ q, x = .ref q ∧ PrAt H q p) (L2.map fun x => V.ref x.1) (L2.map (·.2)) := by
      clear p2 pm h1 hv hz
      induction L2 with
      | nil => exact .nil
      | cons x r ih => exact .cons ⟨_, rfl, pk2 x List.mem_cons_self⟩ (ih fun y hy => pk2 y (List.mem_cons_of_mem _ hy))
    have hD : DpAll X.K H (L2.map fun x => V.ref x.1) ((L2.map (·.2)).map dPr) := by
      clear p2 pm h1 hv hR hz
      induction L2 with
      | nil => exact .nil
      | cons x r ih => exact .cons (prAt_dp (pk2 x List.mem_cons_self)) (ih fun y hy => pk2 y (List.mem_cons_of_mem _ hy))
    obtain ⟨as, rd⟩ := Dp.readsAll I _ _ _ hD hv
    exact h1 s1 _ _ (p2.map (·.2)) k1 g1 o1 (vals_each hv hR) ((readsAll_each dPr rd).mono fun v b ⟨as, r⟩ => ⟨as, PyProof.Rows.Reads.keeps k1 r⟩)
  · obtain ⟨ys, h1, h2⟩ := each_vals e
    refine fin_list I k1 k g o2 hp2 hg h1 ?_ fun hn2 => q ys _ p2 h2 ((List.mergeSort_perm _ _).trans eb) hn2
    rw [pr_len h2, List.length_mergeSort, eb.length_eq, List.length_map, sizeLine_eq]
    omega
end
/-! ### typed -/
def SkT (ks : List Pr) (L : List Apr) (H : Hp) : Prop := (∀ x ∈ L, PrAt H x.1 x.2) ∧ (L.map (·.2)).Nodup ∧ ∀ z, z ∈ L.map (·.2) ↔ z ∈ ks
def tySK (P : Program) (w : World) (ks : List Pr) : Ty := ⟨fun v H => ∃ p L, v = .ref p ∧ Rd H p (SkO P w p L) ∧ SkT ks L H, fun k ⟨p, L, e, h, pk, r⟩ => ⟨p, L, e, k.sf (u := SkO P w p L) True.intro h, fun x hx => (pk x hx).up k, r⟩⟩
/-- a list of pairs, each once, with these members -/
def tyLK (ks : List Pr) : Ty := ⟨fun v H => ∃ ks2 : List Pr, ks2.Nodup ∧ (∀ z, z ∈ ks2 ↔ z ∈ ks) ∧ (tyL (ks2.map tyPr)).p v H, fun k ⟨ks2, n, m, h⟩ => ⟨ks2, n, m, Ty.up _ k h⟩⟩
section
variable {K : PySem.W.Frag} {P : Program} {w : World} {σ : Sl} {D D' H : Hp} {te : TE} {ks : List Pr}
theorem prs_at {D : Hp} : ∀ {ks : List Pr} {vs : List V}, TysAt (ks.map tyPr) vs D → ∃ its : List Apr, vs = its.map (fun x => V.ref x.1) ∧ ks = its.map (·.2) ∧ ∀ x ∈ its, PrAt D x.1 x.2
  | [], _, h => by
    cases h
    exact ⟨[], rfl, rfl, fun x hx => by cases hx⟩
  | k :: ks, _, h => by
    rw [List.map_cons] at h
    cases h with
    | cons h1 h2 =>
      obtain ⟨q, rfl, hq⟩ := prAt_ty h1
      obtain ⟨its, e1, e2, e3⟩ := prs_at h2
      refine ⟨(q, k) :: its, by rw [List.map_cons, e1], by rw [List.map_cons, ← e2], fun x hx => ?_⟩
      rcases List.mem_cons.mp hx with rfl | hx
      · exact hq
      · exact e3 x hx
theorem rc_setK (hz : ks.length < 64) : RC (rSetK K P w) [tyL (ks.map tyPr)] (tySK P w ks) := fun xs D H k h Q q => by
  obtain ⟨v, rfl, a, vs, rfl, ha, hv⟩ := args1 h
  obtain ⟨its, rfl, rfl, pk⟩ := prs_at hv
  rw [List.length_map] at hz
  refine ⟨a, its, rfl, SqL.of (k.q.fx (u := .lst _) True.intro ha), hz, fun x hx => (pk x hx).up k.q, fun p L hp nd sub all => ?_⟩
  have g := (Grow.refl k).add (u := SkO P w p L) hp (.inr True.intro)
  refine q (.ref p) _ _ g ⟨p, L, rfl, .inl upd_same, fun x hx => (pk x (sub x hx)).up g.d.q, nd, fun z => ⟨fun hz => ?_, fun hz => ?_⟩⟩
  · obtain ⟨x, hx, rfl⟩ := List.mem_map.mp hz
    exact List.mem_map.mpr ⟨x, sub x hx, rfl⟩
  · obtain ⟨x, hx, rfl⟩ := List.mem_map.mp hz
    exact all x hx
theorem rc_srtK : RC (fun xs H Q => ∃ p L, xs = [V.ref p] ∧ Rd H p (SkO P w p L) ∧ (∀ x ∈ L, PrAt H x.1 x.2) ∧
    ∀ ys ks q, Paired (fun (x : V) (p : Pr) => ∃ q, x = .ref q ∧ PrAt H q p) ys ks → ks.Perm (L.map (·.2)) → H q = none → Q (.ref q) (upd H q (.lst ys))) [tySK P w ks] (tyLK ks) := fun xs D H k h Q q => by
  obtain ⟨v, rfl, p, L, rfl, hp, pk, nd, m⟩ := args1 h
  refine ⟨p, L, rfl, k.q.sf (u := SkO P w p L) True.intro hp, fun x hx => (pk x hx).up k.q, fun ys ks2 l r pm hl => ?_⟩
  obtain ⟨D2, g2, t2⟩ : ∃ D2, Grow D H D2 (upd H l (.lst ys)) ∧ (tyL (ks2.map tyPr)).p (.ref l) D2 := by
    have g := (Grow.refl k).add (u := .lst ys) hl (.inl True.intro)
    obtain ⟨D3, g3, t3⟩ : ∃ D3, Grow D H D3 (upd H l (.lst ys)) ∧ Kp (upd D l (.lst ys)) D3 ∧ TysAt (ks2.map tyPr) ys D3 := by
      have up : ∀ {x : V} {p : Pr}, (∃ q, x = .ref q ∧ PrAt H q p) → ∃ q, x = .ref q ∧ PrAt (upd H l (.lst ys)) q p := fun ⟨q, e, h⟩ => ⟨q, e, h.up (Kp.new hl (nofz_of (.inl (show Fixd (.lst ys) from True.intro)))).q⟩
      have : ∀ (ys2 : List V) (ks2 : List Pr), Paired (fun (x : V) (p : Pr) => ∃ q, x = .ref q ∧ PrAt H q p) ys2 ks2 → ∃ D3, Grow D H D3 (upd H l (.lst ys)) ∧ Kp (upd D l (.lst ys)) D3 ∧ TysAt (ks2.map tyPr) ys2 D3 := by
        intro ys2 ks2 r
        induction r with
        | nil => exact ⟨_, g, Kp.refl _, .nil⟩
        | cons r1 r2 ih =>
          obtain ⟨D3, g3, k3, t3⟩ := ih
          obtain ⟨q, rfl, hq⟩ := up r1
          obtain ⟨D4, g4, k4, h4⟩ := PrAt.seen g3 hq
          exact ⟨D4, g4, k3.trans k4, .cons h4.ty (TysAt.up k4.q t3)⟩
      exact this ys ks2 r
    exact ⟨D3, g3, l, ys, rfl, t3.1.q.fx (u := .lst ys) True.intro upd_same, t3.2⟩
  exact q (.ref l) D2 _ g2 ⟨ks2, pm.nodup_iff.mpr nd, fun z => (pm.mem_iff).trans (m z), t2⟩
end
end K02
set_option Elab.async false
set_option linter.all false
set_option maxRecDepth 100000
set_option maxHeartbeats 8000000
namespace K02
open PySem PySem.Spec PyProof.Rows L2 PySem.W
section
variable {P : Program} {w : World} {K : PySem.W.Frag} {mg : Str → Option Value} {base : Heap}
variable {σ : Sl} {D D' H H' D0 H0 : Hp} {te ta tb tk tv td : TE} {t u z : Ty} {ts : List Ty}
/-! ### what is told, as data -/
abbrev tyTold (p : Pg) : Ty := tyT [tyS (txt p.ls), tyI p.n, tyNames p.regs, tyHeld p.regs p.fst, tySteps p, tyEnds p]
theorem ints_in {k : Int} : ∀ ks : List Int, inV (.int k) (ks.map V.int) = decide (k ∈ ks)
  | [] => by simp [inV]
  | a :: r => by
    have ih := ints_in (k := k) r
    unfold inV at ih ⊢
    rw [List.map_cons, List.any_cons, ih]
    have e : eqV (V.int a) (V.int k) = decide (a = k) := rfl
    rw [e]
    by_cases c : a = k
    · simp [c]
    · rw [decide_eq_false c, Bool.false_or, decide_eq_decide, List.mem_cons]
      exact ⟨.inr, fun h => h.elim (fun e => absurd e.symm c) id⟩
theorem ints_flat : ∀ ks : List Int, (ks.map V.int).all flatV = true
  | [] => rfl
  | a :: r => by
    rw [List.map_cons, List.all_cons, ints_flat r]
    rfl
/-- k in a local list of ints -/
theorem in_loc {b : Bool} {j : Nat} {l : Addr} {ks : List Int} {k : Int} {Q : Bool → Hp → Prop} (hd : σ[j]? = some (some (.ref l))) (c : Loc l (.lst (ks.map V.int)) D H) (ek : Ev tk σ D (tyI k)) (kp : Kp D H) (hb : decide (k ∈ ks) = b) (q : ∀ D1 H1, Grow D H D1 H1 → Loc l (.lst (ks.map V.int)) D1 H1 → Q b H1) :
    tB (tOp (rIn K false) tk (tVar j)) σ H Q := ek.use kp fun y D1 H1 g1 hy => ⟨.ref l, hd, by
    have hy : y = .int k := hy
    subst hy
    have c1 := c.grow (x := .lst _) True.intro g1
    refine ⟨l, _, rfl, .inl (SqL.of c1.h), rfl, ints_flat ks, _, rfl, ?_⟩
    rw [ints_in, hb]
    exact q D1 H1 g1 c1⟩
theorem notin_locL {b : Bool} {j : Nat} {l : Addr} {ks : List Int} {k : Int} {Q : Bool → Hp → Prop} (hd : σ[j]? = some (some (.ref l))) (c : Loc l (.lst (ks.map V.int)) D H) (ek : Ev tk σ D (tyI k)) (kp : Kp D H) (hb : (!decide (k ∈ ks)) = b) (q : ∀ D1 H1, Grow D H D1 H1 → Loc l (.lst (ks.map V.int)) D1 H1 → Q b H1) :
    tB (tOp (rIn K true) tk (tVar j)) σ H Q := ek.use kp fun y D1 H1 g1 hy => ⟨.ref l, hd, by
    have hy : y = .int k := hy
    subst hy
    have c1 := c.grow (x := .lst _) True.intro g1
    refine ⟨l, _, rfl, .inl (SqL.of c1.h), rfl, ints_flat ks, _, rfl, ?_⟩
    show Q (!inV _ _) H1
    rw [ints_in, hb]
    exact q D1 H1 g1 c1⟩
/-- sorted(steps) -/
theorem rc_srtDT {p : Pg} (o : PgOk p) : RC (fun xs H Q => ∃ (a : Addr) (kvs : List (List Key × V)) (ks : List (Int × Nat)), xs = [V.ref a] ∧ Rd H a (.dT kvs) ∧ kvs.map (·.1) = ks.map dkey ∧ ks.length ≤ 100000 ∧
    ∀ ys p, Paired (fun (x : V) (y : Int × Nat) => ∃ q, x = .ref q ∧ H q = some (.tup ((dkey y).map kV))) ys (ks.mergeSort (dataLe false dDue)) → H p = none → Q (.ref p) (upd H p (.lst ys))) [tySteps p] (tyL ((due p).map tyBp)) := fun xs D H k h Q q => by
  obtain ⟨v, rfl, a, kvs, rfl, ha, kv⟩ := args1 h
  refine ⟨a, kvs, due p, rfl, k.q.sf (u := .dT kvs) True.intro ha, ?_, Nat.le_trans (due_len o) (by decide), fun ys l r hl => ?_⟩
  · rw [kv.keys, List.map_map]
    rfl
  rw [srt_due o] at r
  have g := (Grow.refl k).add (u := .lst ys) hl (.inl True.intro)
  have kH : Kq H (upd H l (.lst ys)) := (Kp.new hl (nofz_of (.inl (show Fixd (.lst ys) from True.intro)))).q
  have : ∀ (ys2 : List V) (ds : List (Int × Nat)), Paired (fun (x : V) (y : Int × Nat) => ∃ q, x = .ref q ∧ H q = some (.tup ((dkey y).map kV))) ys2 ds → ∃ D3, Grow D H D3 (upd H l (.lst ys)) ∧ Kp (upd D l (.lst ys)) D3 ∧ TysAt (ds.map tyBp) ys2 D3 := by
    intro ys2 ds r
    induction r with
    | nil => exact ⟨_, g, Kp.refl _, .nil⟩
    | @cons x y xs ys r1 r2 ih =>
      obtain ⟨D3, g3, k3, t3⟩ := ih
      obtain ⟨q1, rfl, hq⟩ := r1
      obtain ⟨D4, g4, k4, h4⟩ := g3.seen (kH.fx (u := .tup _) True.intro hq)
      exact ⟨D4, g4, k3.trans k4, .cons ⟨q1, _, rfl, h4, .cons rfl (.cons rfl .nil)⟩ (TysAt.up k4.q t3)⟩
  obtain ⟨D3, g3, k3, t3⟩ := this ys (due p) r
  exact q (.ref l) D3 _ g3 ⟨l, ys, rfl, k3.q.fx (u := .lst ys) True.intro upd_same, t3⟩
/-! ### _law_reached -/
def tyRch (p : Pg) : Ty := ⟨fun v H => ∃ ks : List Int, ks.Nodup ∧ (∀ k, k ∈ ks ↔ k ∈ rch p) ∧ (tyL (ks.map tyI)).p v H, fun k ⟨ks, n, m, h⟩ => ⟨ks, n, m, Ty.up _ k h⟩⟩
structure LrI (p : Pg) (ks : List Int) : Prop where
  nd : ks.Nodup
  zero : 0 ∈ ks
  sub : ∀ k ∈ ks, k ∈ rch p
theorem LrI.len {p : Pg} {ks : List Int} (r : LrI p ks) : ks.length ≤ 2 := Nat.le_trans (nodup_sub_len r.nd r.sub) (rch_len p)
theorem LrI.new {p : Pg} (o : PgOk p) {ks : List Int} (r : LrI p ks) {y : Int × Nat} (hy : y ∈ due p) (h1 : y.1 ∈ ks) (h2 : p.goal y.1 y.2 ∉ ks) : LrI p (ks ++ [p.goal y.1 y.2]) :=
  ⟨List.nodup_append.mpr ⟨r.nd, by simp, fun a ha b hb e => h2 (by rw [← List.mem_singleton.mp hb, ← e]; exact ha)⟩, List.mem_append_left _ r.zero, fun k hk => by
    rcases List.mem_append.mp hk with hk | hk
    · exact r.sub k hk
    · rw [List.mem_singleton.mp hk]
      exact rch_clo o _ (r.sub _ h1) _ (due_mem.mp hy).2⟩
theorem LrI.fin {p : Pg} (o : PgOk p) {ks : List Int} (r : LrI p ks) (h : ∀ c ∈ p.ls, p.goal 0 c ∈ ks) (k : Int) : k ∈ ks ↔ k ∈ rch p := by
  refine ⟨r.sub k, fun hk => ?_⟩
  rcases (rch_mem o).mp hk with rfl | ⟨c, hc, rfl⟩
  · exact r.zero
  · exact h c hc
abbrev sp_lreached : Sp := SpF (fun p : Pg => [tyTold p]) tyRch PgOk
theorem cal_lreached (F : Fc K mg) : Cal P w K mg base 1 "_law_reached" sp_lreached := mk__law_reached F (fun _ _ _ _ h => SpF.len (n := 1) (fun _ => rfl) h) fun f cdv A outer s H vs Q E hr h => by
  have nd := sc__law_reached.nd
  have hu := Nat.lt_of_le_of_lt (Nat.add_le_add_left (by decide : 1 ≤ 64) _) hr.units
  obtain ⟨p, D, o, k, tv, q⟩ := h
  refine ⟨_, (pss_cons (ps_set (i := 1) nd rfl (.inl rfl) (pe_lst (pa_cons pe_int pa_nil)))
    (pss_cons (ps_for PassesOwn.never rfl (pi_range1 (by rfl) F.f_range (pa_cons (pe_ix k_ix_tup (pv 0) pe_int (fun _ _ => rfl)) pa_nil)) (pg_name (i := 2) nd rfl (.inl rfl)) (pss_one (ps_for PassesOwn.never rfl (k_pi_list (pe_callB (cr_srtDT rfl hr.units) (by rfl) F.f_sorted bt_sorted (pa_cons (pe_ix k_ix_tup (pv 0) pe_int (fun _ _ => rfl)) pa_nil))) (k_pg_tup (n := 2) rfl (pgs_cons (pg_name (i := 3) nd rfl (.inl rfl)) (pgs_cons (pg_name (i := 4) nd rfl (.inl rfl)) pgs_nil))) (pss_one (ps_if (PW.pt (pw_and (pt_cmpR k_in_seq (pv 3) (pv 1) rfl) (pw_and1 (pt_cmpR k_notIn_seq (pe_ix k_ix_tup (pe_dget hu (pe_ix k_ix_tup (pv 0) pe_int (fun _ _ => rfl)) (pe_tup (pa_cons (pv 3) (pa_cons (pv 4) pa_nil))) (fun _ _ => rfl)) pe_int (fun _ _ => rfl)) (pv 1) rfl)))) (pss_one (ps_expr (pe_bm PySem.F.plainAttrs_list PySem.F.slot_list_append PySem.F.type_list_append mt_append (pv 1) (pa_cons (pe_ix k_ix_tup (pe_dget hu (pe_ix k_ix_tup (pv 0) pe_int (fun _ _ => rfl)) (pe_tup (pa_cons (pv 3) (pa_cons (pv 4) pa_nil))) (fun _ _ => rfl)) pe_int (fun _ _ => rfl)) pa_nil)))) pss_nil)))))
    (pss_one (ps_ret (pv 1))))), ?_⟩
  obtain ⟨v0, rfl, h0⟩ := args1 tv
  have hn := o.nLe
  refine ⟨show (1 : Nat) ≤ sizeLine by decide, fun l hl => ?_⟩
  have gA : Grow D H D (upd H l (.lst ([0].map V.int))) := (Grow.refl k).mut hl (k.dom hl) nf_lst
  have cA : Loc l (.lst ([0].map V.int)) D (upd H l (.lst ([0].map V.int))) := Loc.new k hl
  show tSeq _ _ _ [some v0, some (.ref l), none, none, none] (upd H l (.lst ([0].map V.int)))
  generalize upd H l (.lst ([0].map V.int)) = H2 at gA cA ⊢
  have rA : LrI p [0] := ⟨by simp, by simp, fun k hk => by
    rw [List.mem_singleton.mp hk]
    exact (rch_mem o).mpr (.inl rfl)⟩
  refine st_for (D0 := D) (H0 := H) (xs := List.range p.n) (D := D) (fun i => tyI (i : Nat)) (fun i s D' H' => ∃ ks x2 x3 x4, s = [some v0, some (.ref l), x2, x3, x4] ∧ Loc l (.lst (ks.map V.int)) D' H' ∧ LrI p ks ∧ (1 ≤ i → ∀ c ∈ p.ls, p.goal 0 c ∈ ks)) ?_ (evi_range1 (ea_cons (ev_op (ev_var (t := tyTold p) (σ := [some v0, some (.ref l), none, none, none]) (i := 0) rfl h0) ev_c (rv_ixT (i := 1) rfl)) ea_nil) (by omega)).i gA (fun D3 H3 g3 => ⟨[0], none, none, none, rfl, cA.grow (x := .lst _) True.intro g3, rA, fun h => by omega⟩) ?_ ?_
  · rintro i s D1 H1 D2 H2 ⟨ks, x2, x3, x4, e, c, r⟩ g
    exact ⟨ks, x2, x3, x4, e, c.grow (x := .lst _) True.intro g, r⟩
  · rintro B kb i a hi s1 D3 H3 x kD3 gH3 ⟨ks, x2, x3, x4, rfl, c3, r3, full⟩ tx
    have y0 := (tyTold p).up (kb.trans kD3).q h0
    show tFor _ _ _ _ [some v0, some (.ref l), some x, x3, x4] H3
    refine st_for (D0 := D) (H0 := H) (xs := due p) (D := D3) tyBp (fun j s D' H' => ∃ ks x3 x4, s = [some v0, some (.ref l), some x, x3, x4] ∧ Loc l (.lst (ks.map V.int)) D' H' ∧ LrI p ks ∧ ∀ y ∈ (due p).take j, y.1 = 0 → p.goal 0 y.2 ∈ ks) ?_ (evi_list (ev_cb (ea_cons (ev_op (ev_var (t := tyTold p) (σ := [some v0, some (.ref l), some x, x3, x4]) (i := 0) rfl y0) ev_c (rv_ixT (i := 4) rfl)) ea_nil) (rc_srtDT o))).i gH3 (fun D4 H4 g4 => ⟨ks, x3, x4, rfl, c3.grow (x := .lst _) True.intro g4, r3, by simp⟩) ?_ ?_
    · rintro i s D1 H1 D2 H2 ⟨ks, x3, x4, e, c, r⟩ g
      exact ⟨ks, x3, x4, e, c.grow (x := .lst _) True.intro g, r⟩
    · rintro B2 kb2 j y hj s2 D4 H4 v kD4 gH4 ⟨ks4, z3, z4, rfl, c4, r4, pt⟩ tv4
      have hym := List.mem_of_getElem? hj
      have tk := take_one hj
      have z0 := (tyTold p).up (kb2.trans kD4).q y0
      refine ga_2 (t := tyI y.1) (u := tyS (sign y.2)) gH4.dh tv4 fun x5 x6 t5 t6 => ?_
      have t5 : x5 = .int y.1 := t5
      have t6 : x6 = .str (sign y.2) := t6
      subst t5 t6
      show tIfS _ _ _ _ [some v0, some (.ref l), some x, some (.int y.1), some (.str (sign y.2))] H4
      have goal : ∀ D5, Kp D4 D5 → Ev (tOp (rIxT K) (tDGet (tOp (rIxT K) (tVar 0) (tC (.int 4))) (tTup (tCons (tVar 3) (tCons (tVar 4) tNil)))) (tC (.int 0))) [some v0, some (.ref l), some x, some (.int y.1), some (.str (sign y.2))] D5 (tyI (p.goal y.1 y.2)) := fun D5 k5 =>
        ev_op (ev_dgetT (k := dkey y) (ev_op (ev_var (t := tyTold p) (i := 0) rfl ((tyTold p).up k5.q z0)) ev_c (rv_ixT (i := 4) rfl)) (key_tup (x := y) (ev_var (i := 3) rfl rfl) (ev_var (i := 4) rfl rfl)) (tys_step hym)) ev_c (rv_ixT (i := 0) rfl)
      have same : (y.1 ∈ ks4 → p.goal y.1 y.2 ∈ ks4) → ∀ z ∈ (due p).take (j + 1), z.1 = 0 → p.goal 0 z.2 ∈ ks4 := fun hm z hz hz0 => by
        rw [tk] at hz
        rcases List.mem_append.mp hz with hz | hz
        · exact pt z hz hz0
        · rw [List.mem_singleton.mp hz] at hz0 ⊢
          have := hm (by rw [hz0]; exact r4.zero)
          rwa [hz0] at this
      by_cases hm : y.1 ∈ ks4
      · refine in_loc (b := true) (σ := [some v0, some (.ref l), some x, some (.int y.1), some (.str (sign y.2))]) (j := 1) rfl c4 (ev_var (i := 3) rfl rfl) gH4.dh (decide_eq_true hm) fun D5 H5 g5 c5 => ?_
        refine iteT ?_
        by_cases hm2 : p.goal y.1 y.2 ∈ ks4
        · refine notin_locL (b := false) (σ := [some v0, some (.ref l), some x, some (.int y.1), some (.str (sign y.2))]) (j := 1) rfl c5 (goal D5 g5.d) g5.dh (by rw [decide_eq_true hm2]; rfl) fun D6 H6 g6 c6 => ?_
          refine iteF ?_
          exact ⟨D6, (kD4.trans g5.d).trans g6.d, (gH4.trans g5).trans g6, ks4, _, _, rfl, c6, r4, same fun _ => hm2⟩
        · refine notin_locL (b := true) (σ := [some v0, some (.ref l), some x, some (.int y.1), some (.str (sign y.2))]) (j := 1) rfl c5 (goal D5 g5.d) g5.dh (by rw [decide_eq_false hm2]; rfl) fun D6 H6 g6 c6 => ?_
          refine iteT ?_
          have hz := r4.len
          refine st_append (σ := [some v0, some (.ref l), some x, some (.int y.1), some (.str (sign y.2))]) (i := 1) rfl c6 (goal D6 (g5.d.trans g6.d)) g6.dh (by rw [List.length_map]; omega) fun v7 D7 H7 g7 tv7 c7 => ?_
          have tv7 : v7 = .int (p.goal y.1 y.2) := tv7
          subst tv7
          have g57 := (g5.trans g6).trans g7
          have e7 : ks4.map V.int ++ [V.int (p.goal y.1 y.2)] = (ks4 ++ [p.goal y.1 y.2]).map V.int := by rw [List.map_append]; rfl
          rw [e7]
          refine ⟨D7, kD4.trans g57.d, c7.set (gH4.trans g57) hl nf_lst, ks4 ++ [p.goal y.1 y.2], _, _, rfl, c7.put, r4.new o hym hm hm2, fun z hz hz0 => ?_⟩
          rw [tk] at hz
          rcases List.mem_append.mp hz with hz | hz
          · exact List.mem_append_left _ (pt z hz hz0)
          · rw [List.mem_singleton.mp hz] at hz0 ⊢
            rw [← hz0]
            exact List.mem_append_right _ (List.mem_singleton.mpr rfl)
      · refine in_loc (b := false) (σ := [some v0, some (.ref l), some x, some (.int y.1), some (.str (sign y.2))]) (j := 1) rfl c4 (ev_var (i := 3) rfl rfl) gH4.dh (decide_eq_false hm) fun D5 H5 g5 c5 => ?_
        refine iteF ?_
        refine iteF ?_
        exact ⟨D5, kD4.trans g5.d, gH4.trans g5, ks4, _, _, rfl, c5, r4, same fun h => absurd h hm⟩
    · rintro s2 D4 H4 kD4 gH4 ⟨ks4, z3, z4, rfl, c4, r4, pt⟩
      rw [List.take_length] at pt
      exact ⟨D4, kD3.trans kD4, gH4, ks4, _, _, _, rfl, c4, r4, fun _ c hc => pt (0, c) (due_mem.mpr ⟨⟨Int.le_refl _, by show (0 : Int) < p.n; omega⟩, hc⟩) rfl⟩
  · rintro s1 D3 H3 kD3 gH3 ⟨ks, x2, x3, x4, rfl, c3, r3, full⟩
    rw [List.length_range] at full
    obtain ⟨gO, kO⟩ := c3.own gH3 hl (.inl True.intro)
    refine ret_ev (t := tyRch p) (σ := [some v0, some (.ref l), x2, x3, x4]) (ev_var (i := 1) rfl ⟨ks, r3.nd, r3.fin o (full (by omega)), l, _, rfl, upd_same, ?_⟩) gO.dh fun v D4 H4 g4 tv4 => q v D4 H4 (gO.trans g4) tv4
    have := tysAt_of (xs := ks.map V.int) (H := upd D3 l (.lst (ks.map V.int)))
    rw [List.map_map] at this
    exact this
end
end K02
set_option Elab.async false
set_option linter.all false
set_option maxRecDepth 100000
set_option maxHeartbeats 8000000
namespace K02
open PySem PySem.Spec PyProof.Rows L2 PySem.W
/-! ### the pairs of _law_lives as lists -/
def dkc (p : Pg) (k : Int) (y : Int × Nat) : Bool := decide (p.goal y.1 y.2 = k) && decide (y.1 ∈ rch p)
theorem dk_mem {p : Pg} (o : PgOk p) {k : Int} {y : Int × Nat} : y ∈ (due p).filter (dkc p k) ↔ y ∈ bk p k := by
  unfold dkc
  rw [List.mem_filter, Bool.and_eq_true, decide_eq_true_eq, decide_eq_true_eq]
  exact ⟨fun ⟨h1, h2, h3⟩ => bk_mem.mpr ⟨⟨h3, (due_mem.mp h1).2⟩, h2⟩, fun h => ⟨bk_due o h, (bk_mem.mp h).2, (bk_mem.mp h).1.1⟩⟩
def seedsX (p : Pg) (l : List Int) : List Pr := (seedsL p l).map (seedL p)
def twX (p : Pg) (l : List Int) : Bool := (seedsL p l).any fun s => !decide (regsOf (enr p s)).Nodup
def moreP (p : Pg) (w : Pr) (l : List (Int × Nat)) : List Pr := (l.filter (dkc p w.1)).map fun y => childL p y w.2
def twP (p : Pg) (w : Pr) (l : List (Int × Nat)) : Bool := (l.filter (dkc p w.1)).any fun y => !decide (usesOf (p.row y.1 y.2) w.2).Nodup
def moreL (p : Pg) (l : List Pr) : List Pr := l.flatMap fun w => moreP p w (due p)
def twL (p : Pg) (l : List Pr) : Bool := l.any fun w => twP p w (due p)
theorem moreP_len {p : Pg} {w : Pr} {l : List (Int × Nat)} : (moreP p w l).length ≤ l.length := by
  unfold moreP
  rw [List.length_map]
  exact List.length_filter_le _ _
theorem moreL_len {p : Pg} (o : PgOk p) : ∀ l : List Pr, (moreL p l).length ≤ 4 * l.length
  | [] => Nat.le_refl _
  | w :: l => by
    unfold moreL
    rw [List.flatMap_cons, List.length_append, List.length_cons]
    have h1 : (moreP p w (due p)).length ≤ _ := moreP_len
    have h2 := due_len o
    have h3 : (l.flatMap fun w => moreP p w (due p)).length ≤ 4 * l.length := moreL_len o l
    omega
theorem moreP_mem {p : Pg} (o : PgOk p) {w z : Pr} : z ∈ moreP p w (due p) ↔ ∃ y ∈ bk p w.1, z = childL p y w.2 := by
  unfold moreP
  rw [List.mem_map]
  exact ⟨fun ⟨y, hy, e⟩ => ⟨y, (dk_mem o).mp hy, e.symm⟩, fun ⟨y, hy, e⟩ => ⟨y, (dk_mem o).mpr hy, e.symm⟩⟩
theorem moreL_mem {p : Pg} (o : PgOk p) {l : List Pr} {z : Pr} : z ∈ moreL p l ↔ ∃ w ∈ l, ∃ y ∈ bk p w.1, z = childL p y w.2 := by
  unfold moreL
  rw [List.mem_flatMap]
  exact ⟨fun ⟨w, hw, h⟩ => ⟨w, hw, (moreP_mem o).mp h⟩, fun ⟨w, hw, h⟩ => ⟨w, hw, (moreP_mem o).mpr h⟩⟩
theorem twL_iff {p : Pg} (o : PgOk p) {l : List Pr} : twL p l = true ↔ ∃ w ∈ l, ∃ y ∈ bk p w.1, ¬ (usesOf (p.row y.1 y.2) w.2).Nodup := by
  unfold twL twP
  rw [List.any_eq_true]
  constructor
  · rintro ⟨w, hw, h⟩
    obtain ⟨y, hy, h2⟩ := List.any_eq_true.mp h
    exact ⟨w, hw, y, (dk_mem o).mp hy, by simpa using h2⟩
  · rintro ⟨w, hw, y, hy, h⟩
    exact ⟨w, hw, List.any_eq_true.mpr ⟨y, (dk_mem o).mpr hy, by simpa using h⟩⟩
theorem seedsL_mem {p : Pg} {l : List Int} {s : Int} : s ∈ seedsL p l ↔ s ∈ l ∧ s ∈ ens p := by
  unfold seedsL
  rw [List.mem_filter, decide_eq_true_eq]
theorem LwK.start {p : Pg} {rs : List Int} (n : rs.Nodup) (m : ∀ k, k ∈ rs ↔ k ∈ rch p) : LwK p 0 (seedsX p rs) (twX p rs) := by
  refine .zero ?_ (fun z => ?_) ?_
  · exact List.Pairwise.map _ (fun a b hab e => hab (congrArg Prod.fst e)) (n.filter _)
  · unfold seedsX
    rw [List.mem_map]
    constructor
    · rintro ⟨s, hs, e⟩
      have := seedsL_mem.mp hs
      exact ⟨s, (m s).mp this.1, this.2, e.symm⟩
    · rintro ⟨s, h1, h2, e⟩
      exact ⟨s, seedsL_mem.mpr ⟨(m s).mpr h1, h2⟩, e.symm⟩
  · unfold twX
    rw [List.any_eq_true]
    constructor
    · rintro ⟨s, hs, e⟩
      have := seedsL_mem.mp hs
      exact ⟨s, (m s).mp this.1, this.2, by simpa using e⟩
    · rintro ⟨s, h1, h2, e⟩
      exact ⟨s, seedsL_mem.mpr ⟨(m s).mpr h1, h2⟩, by simpa using e⟩
theorem LwK.more {p : Pg} (o : PgOk p) {k : Nat} {ks ks2 : List Pr} {b : Bool} (h : LwK p k ks b) (n : ks2.Nodup) (m : ∀ z, z ∈ ks2 ↔ z ∈ ks ++ moreL p ks) : LwK p (k + 1) ks2 (b || twL p ks) := by
  refine .next h n (fun z => ?_) ?_
  · rw [m z, List.mem_append, moreL_mem o]
  · rw [Bool.or_eq_true, twL_iff o]
theorem seedsX_next {p : Pg} {l : List Int} {i : Nat} {s : Int} (h : l[i]? = some s) : seedsX p (l.take (i + 1)) = seedsX p (l.take i) ++ (if s ∈ ens p then [seedL p s] else []) ∧ twX p (l.take (i + 1)) = (twX p (l.take i) || (decide (s ∈ ens p) && !decide (regsOf (enr p s)).Nodup)) := by
  unfold seedsX twX seedsL
  rw [take_one h, List.filter_append, List.map_append, List.any_append]
  by_cases c : s ∈ ens p
  · rw [if_pos c, decide_eq_true c, List.filter_cons, if_pos (decide_eq_true c)]
    simp
  · rw [if_neg c, decide_eq_false c, List.filter_cons, if_neg (by simp [c])]
    simp
theorem moreP_next {p : Pg} {w : Pr} {l : List (Int × Nat)} {i : Nat} {y : Int × Nat} (h : l[i]? = some y) : moreP p w (l.take (i + 1)) = moreP p w (l.take i) ++ (if dkc p w.1 y = true then [childL p y w.2] else []) ∧ twP p w (l.take (i + 1)) = (twP p w (l.take i) || (dkc p w.1 y && !decide (usesOf (p.row y.1 y.2) w.2).Nodup)) := by
  unfold moreP twP
  rw [take_one h, List.filter_append, List.map_append, List.any_append]
  cases c : dkc p w.1 y with
  | true =>
    rw [List.filter_cons, if_pos c]
    simp
  | false =>
    rw [List.filter_cons, if_neg (by rw [c]; decide)]
    simp
theorem moreL_next {p : Pg} {l : List Pr} {i : Nat} {w : Pr} (h : l[i]? = some w) : moreL p (l.take (i + 1)) = moreL p (l.take i) ++ moreP p w (due p) ∧ twL p (l.take (i + 1)) = (twL p (l.take i) || twP p w (due p)) := by
  unfold moreL twL
  rw [take_one h, List.flatMap_append, List.any_append]
  simp
theorem uses_next {g : Str → List Item} {l : List Str} {i : Nat} {r : Str} (h : l[i]? = some r) : usesOf g (l.take (i + 1)) = usesOf g (l.take i) ++ regsOf (g r) := by
  unfold usesOf
  rw [take_one h, List.flatMap_append]
  simp
abbrev lvS (x0 x1 x2 x3 x4 x5 x6 x7 x8 x9 x10 x11 x12 x13 : Option V) : Sl := [x0, x1, x2, x3, x4, x5, x6, x7, x8, x9, x10, x11, x12, x13]
def tyLv (p : Pg) : Ty := ⟨fun v H => ∃ ks b, LwK p 40 ks b ∧ (tyT [tyL (ks.map tyPr), tyB b]).p v H, fun k ⟨ks, b, l, h⟩ => ⟨ks, b, l, Ty.up _ k h⟩⟩
section
variable {P : Program} {w : World} {K : PySem.W.Frag} {mg : Str → Option Value} {base : Heap}
variable {σ : Sl} {D D' H H' D0 H0 : Hp} {te ta tb tk tv td : TE} {t u z : Ty} {ts : List Ty}
/-- tuple(sorted(set(names))) -/
theorem ev_names {ns : List Str} (hz : ns.length ≤ 1000) (e : Ev te σ D (tyNames ns)) : Ev (tCB (fun xs H Q => ∃ p ys, xs = [.ref p] ∧ ((SqL K H p ys ∧ ∀ l, H l = none → Q (.ref l) (upd H l (.tup ys))) ∨ (SqT K H p ys ∧ Q (.ref p) H))) (tCons (tCB (fun xs H Q => ∃ p ys, xs = [V.ref p] ∧ Rd H p (SetSO P w p ys) ∧ ∀ q, H q = none → Q (.ref q) (upd H q (.lst ((sortS ys).map V.str)))) (tCons (tCB (rSetL K P w) (tCons te tNil)) tNil)) tNil)) σ D (tyT ((sortS (dd ns)).map tyS)) :=
  ev_cb (ea_cons (ev_cb (ea_cons (ev_cb (ea_cons e ea_nil) (rc_setL hz)) ea_nil) rc_srtSet) ea_nil) rc_tupL
theorem intsL_in {k : Int} {ks : List Int} (e : Ev te σ D (tyI k)) (e2 : Ev ta σ D (tyL (ks.map tyI))) : Ev (tOp (rIn K false) te ta) σ D (tyB (decide (k ∈ ks))) := by
  have e3 : ks.map tyI = (ks.map V.int).map tyV := by rw [List.map_map]; rfl
  rw [e3] at e2
  exact ev_op e e2 (rv_to (by rw [show (if false = true then !inV (.int k) (ks.map V.int) else inV (.int k) (ks.map V.int)) = inV (.int k) (ks.map V.int) from rfl, ints_in]) (rv_inL (K := K) (neg := false) (x := .int k) rfl (ints_flat ks)))
abbrev sp_llives : Sp := SpF (fun p : Pg => [tyTold p]) tyLv PgOk
theorem cal_llives (F : Fc K mg) : Cal P w K mg base 2 "_law_lives" sp_llives := mk__law_lives F (fun _ _ _ _ h => SpF.len (n := 1) (fun _ => rfl) h) fun f cdv A outer s H vs Q E hr h => by
  have nd := sc__law_lives.nd
  have hu := Nat.lt_of_le_of_lt (Nat.add_le_add_left (by decide : 1 ≤ 64) _) hr.units
  have c__law_reached := cal_lreached (P := P) (w := w) (base := base) F
  have c__law_uses := cal_luses (P := P) (w := w) (base := base) F
  have c__law_has_twice := cal_lhas_twice (P := P) (w := w) (base := base) F
  obtain ⟨p, D, o, k, tv, q⟩ := h
  refine ⟨_, (pss_cons (ps_par3 (i := 1) (j := 2) (l := 3) rfl nd rfl rfl rfl (by decide) (by decide) (by decide) rfl rfl rfl (pa_cons (pe_cal c__law_reached hr (by decide) (by rfl) (pa_cons (pv 0) pa_nil)) (pa_cons (pe_lst pa_nil) (pa_cons pe_bl pa_nil))) rfl)
    (pss_cons (ps_for PassesOwn.never rfl (k_pi_list (pv 1)) (pg_name (i := 4) nd rfl (.inl rfl)) (pss_one (ps_if (pt_cmp (pc_din hu (pv 4) (pe_ix k_ix_tup (pv 0) pe_int (fun _ _ => rfl)))) (pss_cons (ps_set (i := 5) nd rfl (.inl rfl) (pe_cal c__law_uses hr (by decide) (by rfl) (pa_cons (pe_dget hu (pe_ix k_ix_tup (pv 0) pe_int (fun _ _ => rfl)) (pv 4) (fun _ _ => rfl)) pa_nil)))
        (pss_cons (ps_set (i := 3) nd rfl (.inl rfl) (pe_or (pv 3) (pe_one (pe_cal c__law_has_twice hr (by decide) (by rfl) (pa_cons (pv 5) pa_nil)))))
        (pss_one (ps_expr (pe_bm PySem.F.plainAttrs_list PySem.F.slot_list_append PySem.F.type_list_append mt_append (pv 2) (pa_cons (pe_tup (pa_cons (pv 4) (pa_cons (pe_callTy k_tuple_of (by rfl) F.f_tuple bt_tuple (pa_cons (pe_callB (cr_srtSet rfl hr.units) (by rfl) F.f_sorted bt_sorted (pa_cons (pe_callTy (cr_setL rfl) (by rfl) F.f_set bt_set (pa_cons (pv 5) pa_nil)) pa_nil)) pa_nil)) pa_nil))) pa_nil)))))) pss_nil)))
    (pss_cons (ps_for PassesOwn.never rfl (pi_range1 (by rfl) F.f_range (pa_cons pe_int pa_nil)) (pg_name (i := 6) nd rfl (.inl rfl)) (pss_cons (ps_set (i := 7) nd rfl (.inl rfl) (pe_lst pa_nil))
      (pss_cons (ps_for PassesOwn.never rfl (k_pi_list (pv 2)) (k_pg_tup (n := 2) rfl (pgs_cons (pg_name (i := 4) nd rfl (.inl rfl)) (pgs_cons (pg_name (i := 5) nd rfl (.inl rfl)) pgs_nil))) (pss_one (ps_for PassesOwn.never rfl (k_pi_list (pe_callB (cr_srtDT rfl hr.units) (by rfl) F.f_sorted bt_sorted (pa_cons (pe_ix k_ix_tup (pv 0) pe_int (fun _ _ => rfl)) pa_nil))) (k_pg_tup (n := 2) rfl (pgs_cons (pg_name (i := 8) nd rfl (.inl rfl)) (pgs_cons (pg_name (i := 9) nd rfl (.inl rfl)) pgs_nil))) (pss_cons (ps_asg (pe_dget hu (pe_ix k_ix_tup (pv 0) pe_int (fun _ _ => rfl)) (pe_tup (pa_cons (pv 8) (pa_cons (pv 9) pa_nil))) (fun _ _ => rfl)) (k_pg_tup (n := 2) rfl (pgs_cons (pg_name (i := 10) nd rfl (.inl rfl)) (pgs_cons (pg_name (i := 11) nd rfl (.inl rfl)) pgs_nil))))
          (pss_one (ps_if (PW.pt (pw_and (pt_cmpR op_eq (pv 10) (pv 4) (nomark _)) (pw_and1 (pt_cmpR k_in_seq (pv 8) (pv 1) rfl)))) (pss_cons (ps_set (i := 12) nd rfl (.inl rfl) (pe_lst pa_nil))
            (pss_cons (ps_for PassesOwn.never rfl (k_pi_tup (pv 5)) (pg_name (i := 13) nd rfl (.inl rfl)) (pss_one (ps_set (i := 12) nd rfl (.inl rfl) (pe_op op_cat (pv 12) (pe_cal c__law_uses hr (by decide) (by rfl) (pa_cons (pe_dget hu (pv 11) (pv 13) (fun _ _ => rfl)) pa_nil))))))
            (pss_cons (ps_set (i := 3) nd rfl (.inl rfl) (pe_or (pv 3) (pe_one (pe_cal c__law_has_twice hr (by decide) (by rfl) (pa_cons (pv 12) pa_nil)))))
            (pss_one (ps_expr (pe_bm PySem.F.plainAttrs_list PySem.F.slot_list_append PySem.F.type_list_append mt_append (pv 7) (pa_cons (pe_tup (pa_cons (pv 8) (pa_cons (pe_callTy k_tuple_of (by rfl) F.f_tuple bt_tuple (pa_cons (pe_callB (cr_srtSet rfl hr.units) (by rfl) F.f_sorted bt_sorted (pa_cons (pe_callTy (cr_setL rfl) (by rfl) F.f_set bt_set (pa_cons (pv 12) pa_nil)) pa_nil)) pa_nil)) pa_nil))) pa_nil))))))) pss_nil))))))
      (pss_one (ps_set (i := 2) nd rfl (.inl rfl) (pe_callB (cr_srtK rfl hr.units) (by rfl) F.f_sorted bt_sorted (pa_cons (pe_callTy (cr_setK rfl hr.units) (by rfl) F.f_set bt_set (pa_cons (pe_op op_cat (pv 2) (pv 7)) pa_nil)) pa_nil)))))))
    (pss_one (ps_ret (pe_tup (pa_cons (pv 2) (pa_cons (pv 3) pa_nil)))))))), ?_⟩
  obtain ⟨v0, rfl, h0⟩ := args1 tv
  refine (ev_call (B := tyRch) (C := PgOk) (A := fun p : Pg => [tyTold p]) (E := E0) p o (ea_cons (ev_var (σ := lvS (some v0) none none none none none none none none none none none none none) (i := 0) rfl h0) ea_nil)).use k fun v1 D1 H1 g1 t1 => ?_
  obtain ⟨rs, rn, rm, t1⟩ := t1
  refine ⟨by decide, fun lp hlp => ⟨_, _, _, rfl, ?_⟩⟩
  have gA := g1.mut (u := .lst []) (g1.h.dom hlp) (g1.dh.dom hlp) nf_lst
  have cA : Loc lp (.lst []) D1 (upd H1 lp (.lst [])) := Loc.new g1.dh hlp
  have u0 := (tyTold p).up g1.d.q h0
  change tSeq _ _ _ (lvS (some v0) (some v1) (some (.ref lp)) (some (.bl false)) none none none none none none none none none none) (upd H1 lp (.lst []))
  generalize upd H1 lp (.lst []) = H2 at gA cA ⊢
  have hlp0 : H lp = none := g1.h.dom hlp
  have rsl : rs.length ≤ 2 := Nat.le_trans (nodup_sub_len rn fun k hk => (rm k).mp hk) (rch_len p)
  have t1' := t1
  refine st_for (D0 := D) (H0 := H) (xs := rs) (D := D1) tyI (fun i s D' H' => ∃ acc x4 x5, s = lvS (some v0) (some v1) (some (.ref lp)) (some (.bl (twX p (rs.take i)))) x4 x5 none none none none none none none none ∧ Loc lp (.lst acc) D' H' ∧ TysAt ((seedsX p (rs.take i)).map tyPr) acc D') ?_ (evi_list (ev_var (t := tyL (rs.map tyI)) (σ := lvS (some v0) (some v1) (some (.ref lp)) (some (.bl false)) none none none none none none none none none none) (i := 1) rfl t1)).i gA (fun D3 H3 g3 => ⟨[], none, none, rfl, cA.grow (x := .lst _) True.intro g3, .nil⟩) ?_ ?_
  · rintro i s D1 H1 D2 H2 ⟨acc, x4, x5, e, c, r⟩ g
    exact ⟨acc, x4, x5, e, c.grow (x := .lst _) True.intro g, TysAt.up g.d.q r⟩
  · rintro B kb i st hi s1 D3 H3 x kD3 gH3 ⟨acc, x4, x5, rfl, c3, r3⟩ tx
    have tx : x = .int st := tx
    subst tx
    have hst := (rm st).mp (List.mem_of_getElem? hi)
    have kk := kb.trans kD3
    obtain ⟨nx1, nx2⟩ := seedsX_next (p := p) hi
    have acl : acc.length < 100000 := by
      have h1 := pr_len r3
      have h2 : (seedsX p (rs.take i)).length ≤ rs.length := by
        unfold seedsX seedsL
        rw [List.length_map]
        exact Nat.le_trans (List.length_filter_le _ _) (List.length_take_le' ..)
      rw [List.length_map] at h1
      omega
    show tIfS _ _ _ _ (lvS (some v0) (some v1) (some (.ref lp)) (some (.bl (twX p (rs.take i)))) (some (.int st)) x5 none none none none none none none none) H3
    have ends : ∀ {x5 : Option V} {x3 : Option V} D4, Kp D3 D4 → Ev (tOp (rIxT K) (tVar 0) (tC (.int 5))) (lvS (some v0) (some v1) (some (.ref lp)) x3 (some (.int st)) x5 none none none none none none none none) D4 (tyEnds p) := fun D4 k4 => ev_op (ev_var (t := tyTold p) (i := 0) rfl ((tyTold p).up (kk.trans k4).q u0)) ev_c (rv_ixT (i := 5) rfl)
    by_cases hen : st ∈ ens p
    · rw [if_pos hen] at nx1
      rw [decide_eq_true hen, Bool.true_and] at nx2
      refine st_ifT (eb_B (ev_din (k := .inl st) (ends D3 (Kp.refl _)) (ev_var (i := 4) rfl rfl) (.inl ⟨rfl, _, tys_end hen⟩))) gH3.dh fun D4 H4 g4 => ?_
      have rl := Nat.le_trans (regsOf_len (enr p st)) (o.en st hen).1
      refine sq_asg (t := tyNames (regsOf (enr p st))) (ev_call (enr p st) (Nat.le_trans (o.en st hen).1 (by decide)) (ea_cons (ev_dget (k := .inl st) (ends D4 g4.d) (ev_var (i := 4) rfl rfl) (tys_end hen)) ea_nil)) g4.dh fun v5 D5 H5 g5 t5 => ?_
      show tSeq _ _ _ (lvS (some v0) (some v1) (some (.ref lp)) (some (.bl (twX p (rs.take i)))) (some (.int st)) (some v5) none none none none none none none none) H5
      refine sq_asg (t := tyB (twX p (rs.take (i + 1)))) (by rw [nx2]; exact ev_orV (ev_var (t := tyB _) (i := 3) rfl rfl) fun _ => ev_call (regsOf (enr p st)) (by omega) (ea_cons (ev_var (i := 5) rfl t5) ea_nil)) g5.dh fun v6 D6 H6 g6 t6 => ?_
      have t6 : v6 = .bl (twX p (rs.take (i + 1))) := t6
      subst t6
      show tDrop _ _ (lvS (some v0) (some v1) (some (.ref lp)) (some (.bl (twX p (rs.take (i + 1))))) (some (.int st)) (some v5) none none none none none none none none) H6
      have g46 := (g4.trans g5).trans g6
      refine st_append (t := tyPr (seedL p st)) (i := 2) rfl (c3.grow (x := .lst _) True.intro g46) (ev_tup (ts := [tyI st, tyT ((sortS (dd (regsOf (enr p st)))).map tyS)]) (ea_cons (ev_var (i := 4) rfl rfl) (ea_cons (ev_names (P := P) (w := w) (by omega) (ev_var (i := 5) rfl ((tyNames _).up g6.d.q t5))) ea_nil))) g6.dh acl fun v7 D7 H7 g7 t7 c7 => ?_
      have g47 := g46.trans g7
      refine ⟨D7, kD3.trans g47.d, c7.set (gH3.trans g47) hlp0 nf_lst, _, _, _, rfl, c7.put, ?_⟩
      rw [nx1, List.map_append]
      exact pr_app (TysAt.up g47.d.q r3) (.cons t7 .nil)
    · rw [if_neg hen, List.append_nil] at nx1
      rw [decide_eq_false hen, Bool.false_and, Bool.or_false] at nx2
      refine st_ifN (eb_B (ev_din (k := .inl st) (ends D3 (Kp.refl _)) (ev_var (i := 4) rfl rfl) (.inr ⟨rfl, hasNo_map (fun s : Int => (Sum.inl s : Key)) (fun s => tyRow (enr p s)) fun s hs e => hen (by rw [← Sum.inl.inj e]; exact hs)⟩))) gH3.dh fun D4 H4 g4 => ?_
      refine ⟨D4, kD3.trans g4.d, gH3.trans g4, acc, some (.int st), x5, ?_, c3.grow (x := .lst _) True.intro g4, ?_⟩
      · rw [nx2]
      · rw [nx1]
        exact TysAt.up g4.d.q r3
  · rintro s1 D3 H3 kD3 gH3 ⟨acc, x4, x5, rfl, c3, r3⟩
    rw [List.take_length] at r3 ⊢
    obtain ⟨gO, kO⟩ := c3.own gH3 hlp0 (.inl True.intro)
    have tp : (tyL ((seedsX p rs).map tyPr)).p (.ref lp) (upd D3 lp (.lst acc)) := ⟨lp, acc, rfl, upd_same, TysAt.up kO.q r3⟩
    have kA := kD3.trans kO
    generalize upd D3 lp (.lst acc) = D4 at gO kO tp kA
    have w0 := (tyTold p).up kA.q u0
    have w1 := Ty.up _ kA.q t1
    dsimp only
    refine st_for (D0 := D) (H0 := H) (xs := List.range 40) (D := D4) (fun i => tyI (i : Nat)) (fun i s D' H' => ∃ ks b v2 x4 x5 x6 x7 x8 x9 x10 x11 x12 x13, s = lvS (some v0) (some v1) (some v2) (some (.bl b)) x4 x5 x6 x7 x8 x9 x10 x11 x12 x13 ∧ LwK p i ks b ∧ (tyL (ks.map tyPr)).p v2 D') ?_ (evi_range1 (ea_cons (ev_c (v := .int 40)) ea_nil) (by decide)).i gO (fun D5 H5 g5 => ⟨_, _, _, _, _, _, _, _, _, _, _, _, _, rfl, LwK.start rn rm, Ty.up _ g5.d.q tp⟩) ?_ ?_
    · rintro i s D1 H1 D2 H2 ⟨ks, b, v2, x4, x5, x6, x7, x8, x9, x10, x11, x12, x13, e, l, r⟩ g
      exact ⟨ks, b, v2, x4, x5, x6, x7, x8, x9, x10, x11, x12, x13, e, l, Ty.up _ g.d.q r⟩
    · rintro B kb i a hi s1 D5 H5 x kD5 gH5 ⟨ks, b, v2, x4, x5, x6, x7, x8, x9, x10, x11, x12, x13, rfl, lw, r5⟩ tx
      have kk := kb.trans kD5
      have kz := lw.len o
      refine ⟨by decide, fun lm hlm => ?_⟩
      have hlm0 : H lm = none := gH5.h.dom hlm
      have gM := gH5.mut (u := .lst []) hlm0 (gH5.dh.dom hlm) nf_lst
      have cM : Loc lm (.lst []) D5 (upd H5 lm (.lst [])) := Loc.new gH5.dh hlm
      have y0 := (tyTold p).up kk.q w0
      have y1 := Ty.up _ kk.q w1
      change tSeq _ _ _ (lvS (some v0) (some v1) (some v2) (some (.bl b)) x4 x5 (some x) (some (.ref lm)) x8 x9 x10 x11 x12 x13) (upd H5 lm (.lst []))
      generalize upd H5 lm (.lst []) = H6 at gM cM ⊢
      refine st_for (D0 := D) (H0 := H) (xs := ks) (D := D5) tyPr (fun j s D' H' => ∃ acc x4 x5 x8 x9 x10 x11 x12 x13, s = lvS (some v0) (some v1) (some v2) (some (.bl (b || twL p (ks.take j)))) x4 x5 (some x) (some (.ref lm)) x8 x9 x10 x11 x12 x13 ∧ Loc lm (.lst acc) D' H' ∧ TysAt ((moreL p (ks.take j)).map tyPr) acc D') ?_ (evi_list (ev_var (t := tyL (ks.map tyPr)) (σ := lvS (some v0) (some v1) (some v2) (some (.bl b)) x4 x5 (some x) (some (.ref lm)) x8 x9 x10 x11 x12 x13) (i := 2) rfl r5)).i gM (fun D7 H7 g7 => ⟨[], x4, x5, x8, x9, x10, x11, x12, x13, by rw [show twL p (ks.take 0) = false from rfl, Bool.or_false], cM.grow (x := .lst _) True.intro g7, .nil⟩) ?_ ?_
      · rintro i s D1 H1 D2 H2 ⟨acc, x4, x5, x8, x9, x10, x11, x12, x13, e, c, r⟩ g
        exact ⟨acc, x4, x5, x8, x9, x10, x11, x12, x13, e, c.grow (x := .lst _) True.intro g, TysAt.up g.d.q r⟩
      · rintro B2 kb2 j wp hj s2 D7 H7 vp kD7 gH7 ⟨acc, x4, x5, x8, x9, x10, x11, x12, x13, rfl, c7, r7⟩ tvp
        have hwm := List.mem_of_getElem? hj
        have hjl := (List.getElem?_eq_some_iff.mp hj).1
        obtain ⟨mx1, mx2⟩ := moreL_next (p := p) hj
        obtain ⟨wrg, wlen⟩ := lw.ok o hwm
        refine ga_2 (t := tyI wp.1) (u := tyT (wp.2.map tyS)) gH7.dh tvp fun x4 vn t4 tn => ?_
        have t4 : x4 = .int wp.1 := t4
        subst t4
        have z0 := (tyTold p).up (kb2.trans kD7).q y0
        have z1 := Ty.up _ (kb2.trans kD7).q y1
        show tFor _ _ _ _ (lvS (some v0) (some v1) (some v2) (some (.bl (b || twL p (ks.take j)))) (some (.int wp.1)) (some vn) (some x) (some (.ref lm)) x8 x9 x10 x11 x12 x13) H7
        refine st_for (D0 := D) (H0 := H) (xs := due p) (D := D7) tyBp (fun m s D' H' => ∃ acc x8 x9 x10 x11 x12 x13, s = lvS (some v0) (some v1) (some v2) (some (.bl (b || twL p (ks.take j) || twP p wp ((due p).take m)))) (some (.int wp.1)) (some vn) (some x) (some (.ref lm)) x8 x9 x10 x11 x12 x13 ∧ Loc lm (.lst acc) D' H' ∧ TysAt ((moreL p (ks.take j) ++ moreP p wp ((due p).take m)).map tyPr) acc D') ?_ (evi_list (ev_cb (ea_cons (ev_op (ev_var (t := tyTold p) (σ := lvS (some v0) (some v1) (some v2) (some (.bl (b || twL p (ks.take j)))) (some (.int wp.1)) (some vn) (some x) (some (.ref lm)) x8 x9 x10 x11 x12 x13) (i := 0) rfl z0) ev_c (rv_ixT (i := 4) rfl)) ea_nil) (rc_srtDT o))).i gH7 (fun D8 H8 g8 => ⟨acc, x8, x9, x10, x11, x12, x13, by rw [show twP p wp ((due p).take 0) = false from rfl, Bool.or_false], c7.grow (x := .lst _) True.intro g8, by rw [show moreP p wp ((due p).take 0) = [] from rfl, List.append_nil]; exact TysAt.up g8.d.q r7⟩) ?_ ?_
        · rintro i s D1 H1 D2 H2 ⟨acc, x8, x9, x10, x11, x12, x13, e, c, r⟩ g
          exact ⟨acc, x8, x9, x10, x11, x12, x13, e, c.grow (x := .lst _) True.intro g, TysAt.up g.d.q r⟩
        · rintro B3 kb3 m y hm s3 D8 H8 vy kD8 gH8 ⟨acc, x8, x9, x10, x11, x12, x13, rfl, c8, r8⟩ tvy
          have hym := List.mem_of_getElem? hm
          have hml := (List.getElem?_eq_some_iff.mp hm).1
          obtain ⟨px1, px2⟩ := moreP_next (p := p) (w := wp) hm
          have k8 := kb3.trans kD8
          have a0 := (tyTold p).up k8.q z0
          have a1 := Ty.up _ k8.q z1
          have an := Ty.up _ k8.q tn
          refine ga_2 (t := tyI y.1) (u := tyS (sign y.2)) gH8.dh tvy fun x8 x9 t8 t9 => ?_
          have t8 : x8 = .int y.1 := t8
          have t9 : x9 = .str (sign y.2) := t9
          subst t8 t9
          show tSeq _ _ _ (lvS (some v0) (some v1) (some v2) (some (.bl (b || twL p (ks.take j) || twP p wp ((due p).take m)))) (some (.int wp.1)) (some vn) (some x) (some (.ref lm)) (some (.int y.1)) (some (.str (sign y.2))) x10 x11 x12 x13) H8
          generalize hb8 : (b || twL p (ks.take j) || twP p wp ((due p).take m)) = b8
          refine sq_asgG (t := tyStep p.regs (p.goal y.1 y.2, p.row y.1 y.2)) (ev_dgetT (k := dkey y) (ev_op (ev_var (t := tyTold p) (i := 0) rfl a0) ev_c (rv_ixT (i := 4) rfl)) (key_tup (x := y) (ev_var (i := 8) rfl rfl) (ev_var (i := 9) rfl rfl)) (tys_step hym)) gH8.dh fun v9 D9 H9 g9 t9 => ?_
          refine ga_2 (t := tyI (p.goal y.1 y.2)) (u := tyRows p.regs (p.row y.1 y.2)) g9.dh t9 fun x10 vr t10 tr => ?_
          have t10 : x10 = .int (p.goal y.1 y.2) := t10
          subst t10
          show tIfS _ _ _ _ (lvS (some v0) (some v1) (some v2) (some (.bl b8)) (some (.int wp.1)) (some vn) (some x) (some (.ref lm)) (some (.int y.1)) (some (.str (sign y.2))) (some (.int (p.goal y.1 y.2))) (some vr) x12 x13) H9
          have c9 := c8.grow (x := .lst _) True.intro g9
          have r9 := TysAt.up g9.d.q r8
          have gH9 := gH8.trans g9
          refine st_ifB (v := dkc p wp.1 y) (eb_and (a := decide (p.goal y.1 y.2 = wp.1)) (b := decide (y.1 ∈ rch p)) (eb_B (ev_op (ev_var (i := 10) rfl rfl) (ev_var (i := 4) rfl rfl) (rv_eqI rfl))) fun _ => eb_is (decide_eq_decide.mpr (rm y.1)) (eb_B (intsL_in (ks := rs) (ev_var (i := 8) rfl rfl) (ev_var (i := 1) rfl (Ty.up _ g9.d.q a1))))) g9.dh (fun hb D10 H10 g10 => ?_) (fun hb D10 H10 g10 => ?_)
          · rw [if_pos hb] at px1
            rw [hb, Bool.true_and] at px2
            have g910 := g9.trans g10
            refine sq_asg (t := tyL []) (ev_lst (ts := []) ea_nil) g10.dh fun v12 D11 H11 g11 t12 => ?_
            have gB := g910.trans g11
            have gHB := gH8.trans gB
            show tSeq _ _ _ (lvS (some v0) (some v1) (some v2) (some (.bl b8)) (some (.int wp.1)) (some vn) (some x) (some (.ref lm)) (some (.int y.1)) (some (.str (sign y.2))) (some (.int (p.goal y.1 y.2))) (some vr) (some v12) x13) H11
            have bn := Ty.up _ gB.d.q an
            have br := Ty.up _ (g10.trans g11).d.q tr
            refine st_for (D0 := D) (H0 := H) (xs := wp.2) (D := D11) tyS (fun n s D' H' => ∃ v12 x13, s = lvS (some v0) (some v1) (some v2) (some (.bl b8)) (some (.int wp.1)) (some vn) (some x) (some (.ref lm)) (some (.int y.1)) (some (.str (sign y.2))) (some (.int (p.goal y.1 y.2))) (some vr) (some v12) x13 ∧ Loc lm (.lst acc) D' H' ∧ (tyNames (usesOf (p.row y.1 y.2) (wp.2.take n))).p v12 D') ?_ (evi_tup (ev_var (t := tyT (wp.2.map tyS)) (σ := lvS (some v0) (some v1) (some v2) (some (.bl b8)) (some (.int wp.1)) (some vn) (some x) (some (.ref lm)) (some (.int y.1)) (some (.str (sign y.2))) (some (.int (p.goal y.1 y.2))) (some vr) (some v12) x13) (i := 5) rfl bn)).i gHB (fun D12 H12 g12 => ⟨v12, x13, rfl, c8.grow (x := .lst _) True.intro (gB.trans g12), Ty.up _ g12.d.q t12⟩) ?_ ?_
            · rintro i s D1 H1 D2 H2 ⟨v12, x13, e, c, r⟩ g
              exact ⟨v12, x13, e, c.grow (x := .lst _) True.intro g, Ty.up _ g.d.q r⟩
            · rintro B4 kb4 n nm hn s4 D12 H12 vnm kD12 gH12 ⟨v12, x13, rfl, c12, r12⟩ tnm
              have tnm : vnm = .str nm := tnm
              subst tnm
              have hnm := wrg nm (List.mem_of_getElem? hn)
              have hnl := (List.getElem?_eq_some_iff.mp hn).1
              have k12 := kb4.trans kD12
              show tAsg _ _ _ (lvS (some v0) (some v1) (some v2) (some (.bl b8)) (some (.int wp.1)) (some vn) (some x) (some (.ref lm)) (some (.int y.1)) (some (.str (sign y.2))) (some (.int (p.goal y.1 y.2))) (some vr) (some v12) (some (.str nm))) H12
              have ul : (usesOf (p.row y.1 y.2) (wp.2.take n)).length ≤ 10 := by
                have h1 := uses_len (g := p.row y.1 y.2) (live := wp.2.take n) (z := 5) fun r hr => (o.row y hym r (wrg r (List.mem_of_mem_take hr))).1
                rw [List.length_take] at h1
                omega
              have rl := Nat.le_trans (regsOf_len (p.row y.1 y.2 nm)) (o.row y hym nm hnm).1
              refine st_asg (t := tyNames (usesOf (p.row y.1 y.2) (wp.2.take (n + 1)))) (ev_is (by rw [uses_next hn]; exact congrArg tyL List.map_append.symm) (ev_op (ev_var (i := 12) rfl r12) (ev_call (p.row y.1 y.2 nm) (Nat.le_trans (o.row y hym nm hnm).1 (by decide)) (ea_cons (ev_dget (k := .inr nm) (ev_var (t := tyRows p.regs (p.row y.1 y.2)) (i := 11) rfl (Ty.up _ k12.q br)) (ev_var (i := 13) rfl rfl) (has_held (f := fun r => tyRow (p.row y.1 y.2 r)) hnm)) ea_nil)) (rv_cat (by rw [List.length_map, List.length_map]; omega)))) gH12.dh fun v13 D13 H13 g13 t13 => ?_
              exact ⟨D13, kD12.trans g13.d, gH12.trans g13, v13, some (.str nm), rfl, c12.grow (x := .lst _) True.intro g13, t13⟩
            · rintro s4 D12 H12 kD12 gH12 ⟨v12, x13, rfl, c12, r12⟩
              rw [List.take_length] at r12
              have ul : (usesOf (p.row y.1 y.2) wp.2).length ≤ 10 := by
                have h1 := uses_len (g := p.row y.1 y.2) (live := wp.2) (z := 5) fun r hr => (o.row y hym r (wrg r hr)).1
                omega
              dsimp only
              refine sq_asg (t := tyB (b8 || !decide (usesOf (p.row y.1 y.2) wp.2).Nodup)) (ev_orV (ev_var (t := tyB b8) (i := 3) rfl rfl) fun _ => ev_call (usesOf (p.row y.1 y.2) wp.2) (by omega) (ea_cons (ev_var (i := 12) rfl r12) ea_nil)) gH12.dh fun v13 D13 H13 g13 t13 => ?_
              have t13 : v13 = .bl (b8 || !decide (usesOf (p.row y.1 y.2) wp.2).Nodup) := t13
              subst t13
              show tDrop _ _ (lvS (some v0) (some v1) (some v2) (some (.bl (b8 || !decide (usesOf (p.row y.1 y.2) wp.2).Nodup))) (some (.int wp.1)) (some vn) (some x) (some (.ref lm)) (some (.int y.1)) (some (.str (sign y.2))) (some (.int (p.goal y.1 y.2))) (some vr) (some v12) x13) H13
              have acl : acc.length < 100000 := by
                have h1 := pr_len r8
                have h2 := moreL_len o (ks.take j)
                have h3 : (moreP p wp ((due p).take m)).length ≤ _ := moreP_len
                rw [List.length_take] at h2 h3
                rw [List.length_map, List.length_append] at h1
                have := due_len o
                omega
              refine st_append (t := tyPr (childL p y wp.2)) (i := 7) rfl (c12.grow (x := .lst _) True.intro g13) (ev_tup (ts := [tyI y.1, tyT ((sortS (dd (usesOf (p.row y.1 y.2) wp.2))).map tyS)]) (ea_cons (ev_var (i := 8) rfl rfl) (ea_cons (ev_names (P := P) (w := w) (by omega) (ev_var (i := 12) rfl ((tyNames _).up g13.d.q r12))) ea_nil))) g13.dh acl fun v14 D14 H14 g14 t14 c14 => ?_
              have gE := (gB.d.trans kD12).trans (g13.trans g14).d
              refine ⟨D14, kD8.trans gE, c14.set (gH12.trans (g13.trans g14)) hlm0 nf_lst, acc ++ [v14], some (.int y.1), some (.str (sign y.2)), some (.int (p.goal y.1 y.2)), some vr, some v12, x13, ?_, c14.put, ?_⟩
              · rw [px2, ← hb8]
                simp only [Bool.or_assoc]
              · rw [px1, ← List.append_assoc, List.map_append]
                exact pr_app (TysAt.up gE.q r8) (.cons t14 .nil)
          · rw [hb] at px1 px2
            rw [if_neg (by decide), List.append_nil] at px1
            rw [Bool.false_and, Bool.or_false] at px2
            refine ⟨D10, (kD8.trans g9.d).trans g10.d, gH9.trans g10, acc, some (.int y.1), some (.str (sign y.2)), some (.int (p.goal y.1 y.2)), some vr, x12, x13, ?_, c9.grow (x := .lst _) True.intro g10, ?_⟩
            · rw [px2, ← hb8]
            · rw [px1]
              exact TysAt.up g10.d.q r9
        · rintro s3 D8 H8 kD8 gH8 ⟨acc, x8, x9, x10, x11, x12, x13, rfl, c8, r8⟩
          rw [List.take_length] at r8 ⊢
          refine ⟨D8, kD7.trans kD8, gH8, acc, some (.int wp.1), some vn, x8, x9, x10, x11, x12, x13, ?_, c8, ?_⟩
          · rw [mx2, Bool.or_assoc]
          · rw [mx1]
            exact r8
      · rintro s2 D7 H7 kD7 gH7 ⟨acc, x4, x5, x8, x9, x10, x11, x12, x13, rfl, c7, r7⟩
        rw [List.take_length] at r7 ⊢
        obtain ⟨gO2, kO2⟩ := c7.own gH7 hlm0 (.inl True.intro)
        have tm : (tyL ((moreL p ks).map tyPr)).p (.ref lm) (upd D7 lm (.lst acc)) := ⟨lm, acc, rfl, upd_same, TysAt.up kO2.q r7⟩
        have kE := kD7.trans kO2
        generalize upd D7 lm (.lst acc) = D8 at gO2 kO2 tm kE
        have ml := moreL_len o ks
        dsimp only
        refine st_asg (t := tyLK (ks ++ moreL p ks)) (ev_cb (ea_cons (ev_cb (ea_cons (ev_is (t := tyL (ks.map tyPr ++ (moreL p ks).map tyPr)) (by rw [List.map_append]) (ev_op (ev_var (i := 2) rfl (Ty.up _ kE.q r5)) (ev_var (i := 7) rfl tm) (rv_cat (by rw [List.length_map, List.length_map]; omega)))) ea_nil) (rc_setK (P := P) (w := w) (by rw [List.length_append]; omega))) ea_nil) rc_srtK) gO2.dh fun v9 D9 H9 g9 t9 => ?_
        obtain ⟨ks2, n2, m2, t9⟩ := t9
        exact ⟨D9, (kD5.trans kE).trans g9.d, gO2.trans g9, ks2, _, v9, _, _, _, _, _, _, _, _, _, _, rfl, lw.more o n2 m2, t9⟩
    · rintro s1 D5 H5 kD5 gH5 ⟨ks, b, v2, x4, x5, x6, x7, x8, x9, x10, x11, x12, x13, rfl, lw, r5⟩
      refine ret_ev (t := tyT [tyL (ks.map tyPr), tyB b]) (σ := lvS (some v0) (some v1) (some v2) (some (.bl b)) x4 x5 x6 x7 x8 x9 x10 x11 x12 x13) (ev_tup (ts := [tyL (ks.map tyPr), tyB b]) (ea_cons (ev_var (i := 2) rfl r5) (ea_cons (ev_var (i := 3) rfl rfl) ea_nil))) gH5.dh fun v D6 H6 g6 t6 => q v D6 H6 (gH5.trans g6) ⟨ks, b, lw, t6⟩
end
end K02
set_option Elab.async false
set_option linter.all false
set_option maxRecDepth 100000
set_option maxHeartbeats 8000000
namespace K02
open PySem PySem.Spec PyProof.Rows L2 PySem.W
/-! ### Thrifty.__eq__, Twice.__eq__ -/
section
variable {P : Program} {w : World} {K : PySem.W.Frag} {mg : Str → Option Value} {base : Heap}
def RThr (K : PySem.W.Frag) (a b : Addr) (H : Hp) : Prop := ∃ (ks : List Pr) (D : Hp), Kp D H ∧ (tyThr K ks).p (.ref a) D ∧ (tyThr K ks).p (.ref b) D ∧ SeqAt.shaped (.list (ks.map dPr)) = true
def dTw (x : List Nat × List Nat × Str) : PyData := .tuple [.str (txt x.1), .str (txt x.2.1), .str x.2.2]
def RTwi (K : PySem.W.Frag) (a b : Addr) (H : Hp) : Prop := ∃ (x : List Nat × List Nat × Str) (D : Hp), Kp D H ∧ (tyTwi K x).p (.ref a) D ∧ (tyTwi K x).p (.ref b) D ∧ SeqAt.shaped (dTw x) = true
theorem shaped_eqv {d : PyData} (h : SeqAt.shaped d = true) : PyData.eqv d d = true := SeqAt.eqv_refl d (Bool.and_eq_true_iff.mp h).1
theorem spEq_len {R : Addr → Addr → Hp → Prop} {vs : List V} {H : Hp} {Q : VK} {E : XK} (h : spEq R vs H Q E) : vs.length = 2 := by
  obtain ⟨a, b, rfl, _⟩ := h
  rfl
theorem cal_Thrifty_eq (F : Fc K mg) : Met P w K mg base 1 (TP K) "__eq__" (spEq (RThr K)) := mk_Thrifty_eq F (fun _ _ _ _ h => spEq_len h) fun f cdv A outer s H vs Q E hr h => by
  have nd := sc_Thrifty_eq.nd
  have hu := Nat.lt_of_le_of_lt (Nat.add_le_add_left (by decide : 1 ≤ 64) _) hr.units
  obtain ⟨a, b, rfl, ⟨ks, D, k, ta, tb, sh⟩, q⟩ := h
  refine ⟨_, (pss_one (ps_ret (pe_and (pe_callB (C8.call_isC F.ins_T) (by rfl) F.f_isinstance bt_isinstance (pa_cons (pv 1) (pa_cons (pe_glob (v := .ref (He.ga K "Thrifty")) (by rfl) F.g_Thrifty rfl) pa_nil))) (pe_one (pe_cmpR (k_eqD hr.units) (k_fld (pv 0) rfl) (k_fld (pv 1) rfl) (nomark _)))))), ?_⟩
  obtain ⟨w1, p1, t1⟩ := pu_fld (f := "lives") (t := tyL (ks.map tyPr)) (pu_var (σ := start n_Thrifty_eq [V.ref a, V.ref b]) (D := D) (i := 0) rfl) ta F.cls_Thrifty F.no_Thrifty_lives rfl
  obtain ⟨w2, p2, t2⟩ := pu_fld (f := "lives") (t := tyL (ks.map tyPr)) (pu_var (σ := start n_Thrifty_eq [V.ref a, V.ref b]) (D := D) (i := 1) rfl) tb F.cls_Thrifty F.no_Thrifty_lives rfl
  obtain ⟨b2, dx, fs, e, hb, _⟩ := tb
  cases e
  refine ⟨.ref b, rfl, ⟨b, dx, fs, rfl, k.q.fx (u := .ins _ dx fs) True.intro hb, true, rfl, ?_⟩⟩
  refine iteT ?_
  refine p1 H k.q _ (p2 H k.q _ ⟨_, _, dp_lst dp_pr w1 D H k t1, dp_lst dp_pr w2 D H k t2, sh, sh, ?_⟩)
  rw [shaped_eqv sh]
  exact q H Ext.rfl'
theorem cal_Twice_eq (F : Fc K mg) : Met P w K mg base 1 (WP K) "__eq__" (spEq (RTwi K)) := mk_Twice_eq F (fun _ _ _ _ h => spEq_len h) fun f cdv A outer s H vs Q E hr h => by
  have nd := sc_Twice_eq.nd
  have hu := Nat.lt_of_le_of_lt (Nat.add_le_add_left (by decide : 1 ≤ 64) _) hr.units
  obtain ⟨a, b, rfl, ⟨x, D, k, ta, tb, sh⟩, q⟩ := h
  refine ⟨_, (pss_cons (ps_if (pt_not (pt_val (pe_callB (C8.call_isC F.ins_W) (by rfl) F.f_isinstance bt_isinstance (pa_cons (pv 1) (pa_cons (pe_glob (v := .ref (He.ga K "Twice")) (by rfl) F.g_Twice rfl) pa_nil))))) (pss_one (ps_ret pe_bl)) pss_nil)
    (pss_one (ps_ret (pe_cmpR (k_eqD hr.units) (pe_tup (pa_cons (k_fld (pv 0) rfl) (pa_cons (k_fld (pv 0) rfl) (pa_cons (k_fld (pv 0) rfl) pa_nil)))) (pe_tup (pa_cons (k_fld (pv 1) rfl) (pa_cons (k_fld (pv 1) rfl) (pa_cons (k_fld (pv 1) rfl) pa_nil)))) (nomark _))))), ?_⟩
  have f1 : ∀ (i : Nat) (v : V), (start n_Twice_eq [V.ref a, V.ref b])[i]? = some (some v) → (tyTwi K x).p v D → Pu (tFld K (tVar i) "text") (start n_Twice_eq [V.ref a, V.ref b]) D (.str (txt x.1)) := fun i v hi tv => by
    obtain ⟨w1, p1, t1⟩ := pu_fld (f := "text") (t := tyS (txt x.1)) (pu_var (D := D) hi) tv F.cls_Twice F.no_Twice_text rfl
    have t1 : w1 = .str (txt x.1) := t1
    rw [← t1]
    exact p1
  have f2 : ∀ (i : Nat) (v : V), (start n_Twice_eq [V.ref a, V.ref b])[i]? = some (some v) → (tyTwi K x).p v D → Pu (tFld K (tVar i) "rest") (start n_Twice_eq [V.ref a, V.ref b]) D (.str (txt x.2.1)) := fun i v hi tv => by
    obtain ⟨w1, p1, t1⟩ := pu_fld (f := "rest") (t := tyS (txt x.2.1)) (pu_var (D := D) hi) tv F.cls_Twice F.no_Twice_rest rfl
    have t1 : w1 = .str (txt x.2.1) := t1
    rw [← t1]
    exact p1
  have f3 : ∀ (i : Nat) (v : V), (start n_Twice_eq [V.ref a, V.ref b])[i]? = some (some v) → (tyTwi K x).p v D → Pu (tFld K (tVar i) "name") (start n_Twice_eq [V.ref a, V.ref b]) D (.str x.2.2) := fun i v hi tv => by
    obtain ⟨w1, p1, t1⟩ := pu_fld (f := "name") (t := tyS x.2.2) (pu_var (D := D) hi) tv F.cls_Twice F.no_Twice_name rfl
    have t1 : w1 = .str x.2.2 := t1
    rw [← t1]
    exact p1
  have hb := tb
  obtain ⟨b2, dx, fs, e, hb, _⟩ := hb
  cases e
  refine ⟨.ref b, rfl, ⟨b, dx, fs, rfl, k.q.fx (u := .ins _ dx fs) True.intro hb, true, rfl, ?_⟩⟩
  refine iteF ?_
  unfold tNext
  dsimp only
  unfold tRet
  dsimp only
  unfold tOp
  have tup : ∀ (i : Nat) (v : V), (start n_Twice_eq [V.ref a, V.ref b])[i]? = some (some v) → (tyTwi K x).p v D → ∀ H1 (Q1 : VK), Kq D H1 → (∀ p, H1 p = none → Q1 (.ref p) (upd H1 p (.tup [.str (txt x.1), .str (txt x.2.1), .str x.2.2]))) → tTup (tCons (tFld K (tVar i) "text") (tCons (tFld K (tVar i) "rest") (tCons (tFld K (tVar i) "name") tNil))) (start n_Twice_eq [V.ref a, V.ref b]) H1 Q1 := fun i v hi tv H1 Q1 k1 q1 =>
    by
      unfold tTup tCons
      refine f1 i v hi tv H1 k1 _ ?_
      refine f2 i v hi tv H1 k1 _ ?_
      refine f3 i v hi tv H1 k1 _ ?_
      exact ⟨show (3 : Nat) ≤ sizeLine by decide, q1⟩
  refine tup 0 _ rfl ta H _ k.q fun p1 hp1 => ?_
  have k1 := Kp.new hp1 (nofz_of (.inl (show Fixd (.tup [.str (txt x.1), .str (txt x.2.1), .str x.2.2]) from True.intro)))
  refine tup 1 _ rfl tb _ _ (k.q.trans k1.q) fun p2 hp2 => ?_
  have k2 := Kp.new hp2 (nofz_of (.inl (show Fixd (.tup [.str (txt x.1), .str (txt x.2.1), .str x.2.2]) from True.intro)))
  have dp : ∀ {Z : Hp} {p : Addr}, Z p = some (.tup [.str (txt x.1), .str (txt x.2.1), .str x.2.2]) → Dp K Z (.ref p) (dTw x) := fun h => .tup (SqT.of h) (.cons (.str _) (.cons (.str _) (.cons (.str _) .nil)))
  refine ⟨dTw x, dTw x, dp (k2.q.fx (u := .tup _) True.intro upd_same), dp upd_same, sh, sh, ?_⟩
  rw [shaped_eqv sh]
  exact q _ ((Ext.upd hp1).trans (Ext.upd hp2))
end
section
variable {X : Cx} {k j : Nat} {C : Addr} {R : Addr → Addr → Hp → Prop}
/-- == by an own __eq__ -/
theorem op_own (c : Met X.prog X.w X.K X.mg X.base k C "__eq__" (spEq R)) (hr : Room j X.A) (hk : k ≤ j) : OpR X (compareOp .Eq) (rEqG (DIns C R)) := by
  obtain ⟨f, fd, ps, hc, hm, F, b⟩ := c.ex
  exact op_eqG (rcG_ins F hm.at_ hm.fn b pass0) (hr.mono hk)
end
end K02
set_option Elab.async false
set_option linter.all false
set_option maxRecDepth 100000
set_option maxHeartbeats 8000000
namespace K02
open PySem PySem.Spec PyProof.Rows L2 PySem.W
/-! ### rules of law's own -/
theorem room65 {k : Nat} {A : Around} (r : Room k A) : A.units + 65 < cLine := by have := r.un; omega
section
variable {X : Cx} {e : Expr} {f : Value} {t1 t2 : TE} {b1 b2 : TT} {r1 r2 : List V → Hp → VK → Prop}
/-- one of two readings -/
def tEi (t1 t2 : TE) : TE := fun σ H Q => t1 σ H Q ∨ t2 σ H Q
def bEi (t1 t2 : TT) : TT := fun σ H Q => t1 σ H Q ∨ t2 σ H Q
def rEi (r1 r2 : List V → Hp → VK → Prop) : List V → Hp → VK → Prop := fun xs H Q => r1 xs H Q ∨ r2 xs H Q
theorem pe_or2 (h1 : PE X e t1) (h2 : PE X e t2) : PE X e (tEi t1 t2) := ⟨fun pins s σ H Q I h => h.elim (h1.run pins s σ H Q I) (h2.run pins s σ H Q I)⟩
theorem pt_or2 (h1 : PT X e b1) (h2 : PT X e b2) : PT X e (bEi b1 b2) := ⟨fun pins s σ H Q I h => h.elim (h1.run pins s σ H Q I) (h2.run pins s σ H Q I)⟩
theorem cr_or (h1 : CallR X f r1) (h2 : CallR X f r2) : CallR X f (rEi r1 r2) := fun pins s σ H xs us Q I r h => h.elim (h1 pins s σ H xs us Q I r) (h2 pins s σ H xs us Q I r)
end
section
variable {P : Program} {w : World} {K : PySem.W.Frag} {σ : Sl} {D D' H : Hp} {te ta tb tk td : TE} {tt : TT} {t u z : Ty} {ts us : List Ty}
theorem ev_l (e : Ev te σ D t) : Ev (tEi te tb) σ D t := fun D1 H k h Q q => .inl (e D1 H k h Q q)
theorem ev_r (e : Ev te σ D t) : Ev (tEi tb te) σ D t := fun D1 H k h Q q => .inr (e D1 H k h Q q)
theorem eb_l {tu : TT} {b : Bool} (e : EvB tt σ D b) : EvB (bEi tt tu) σ D b := fun D1 H k h Q q => .inl (e D1 H k h Q q)
theorem eb_r {tu : TT} {b : Bool} (e : EvB tt σ D b) : EvB (bEi tu tt) σ D b := fun D1 H k h Q q => .inr (e D1 H k h Q q)
theorem rc_l {r1 r2 : List V → Hp → VK → Prop} (e : RC r1 ts z) : RC (rEi r1 r2) ts z := fun xs D H k h Q q => .inl (e xs D H k h Q q)
theorem rc_r {r1 r2 : List V → Hp → VK → Prop} (e : RC r2 ts z) : RC (rEi r1 r2) ts z := fun xs D H k h Q q => .inr (e xs D H k h Q q)
/-- tuples one behind another, the second not empty -/
theorem rv_catA (hz : ts.length + (u :: us).length ≤ 100000) : RV (rCatA K) (tyT ts) (tyT (u :: us)) (tyT (ts ++ u :: us)) := fun x y D H k hx hy Q q => by
  obtain ⟨a, xs, rfl, ha, hv⟩ := hx
  obtain ⟨b, ys, rfl, hb, hw⟩ := hy
  have l1 := pr_len hv
  have l2 := pr_len hw
  refine ⟨a, b, xs, ys, rfl, rfl, SqT.of (k.q.fx (u := .tup _) True.intro ha), SqT.of (k.q.fx (u := .tup _) True.intro hb), ?_, fun e => ?_, fun _ e => ?_, fun _ _ p hp => ?_⟩
  · rw [l1, l2]
    exact Nat.le_trans hz (by decide)
  · subst e
    cases hv
    exact q _ D H (Grow.refl k) ⟨b, ys, rfl, hb, hw⟩
  · subst e
    cases hw
  · have g := (Grow.refl k).add (u := .tup (xs ++ ys)) hp (.inl True.intro)
    exact q _ _ _ g ⟨p, _, rfl, upd_same, pr_app (TysAt.up g.d.q hv) (TysAt.up g.d.q hw)⟩
theorem ev_dnotin {kts : List (Key × Ty)} {k : Key} {b : Bool} (ed : Ev td σ D (tyD kts)) (ek : Ev tk σ D (tyV (kV k))) (h : (b = false ∧ ∃ t, Has kts k t) ∨ (b = true ∧ HasNo kts k)) : Ev (tDNotIn tk td) σ D (tyB b) := fun D1 H k1 h1 Q q =>
  ek D1 H k1 h1 _ fun y D2 H2 g2 ty => ed D2 H2 (k1.trans g2.d) g2.dh _ fun x D3 H3 g3 tx => by
    obtain ⟨a, kvs, rfl, ha, hv⟩ := tx
    have ty : y = kV k := ty
    subst ty
    refine ⟨a, valV kvs k, rfl, .inl ⟨kvs, k, g3.dh.q.sf (u := .dK kvs) True.intro ha, rfl, rfl⟩, ?_⟩
    rcases h with ⟨rfl, t, h⟩ | ⟨rfl, h⟩
    · obtain ⟨v, e1, _⟩ := (lookup_at hv k).1 t h
      rw [e1]
      exact q _ D3 H3 (g2.trans g3) rfl
    · rw [(lookup_at hv k).2 h]
      exact q _ D3 H3 (g2.trans g3) rfl
theorem rv_isnot {a b : Bool} : RV (fun x y H Q => ∃ a b, x = .bl a ∧ y = .bl b ∧ Q (.bl (!decide (a = b))) H) (tyB a) (tyB b) (tyB (!decide (a = b))) := RV.plain fun H Q q => ⟨a, b, rfl, rfl, q⟩
end
/-! ### pairs as data are equal as pairs -/
theorem eqv_strs : ∀ a b : List Str, PyData.eqvAll (a.map PyData.str) (b.map PyData.str) = decide (a = b)
  | [], [] => rfl
  | [], _ :: _ => rfl
  | _ :: _, [] => rfl
  | x :: r, y :: t => by
    show (PyData.eqv (.str x) (.str y) && PyData.eqvAll (r.map PyData.str) (t.map PyData.str)) = _
    rw [eqv_strs r t]
    have e : PyData.eqv (.str x) (.str y) = decide (x = y) := by
      show (x == y) = _
      by_cases c : x = y
      · subst c
        simp
      · rw [decide_eq_false c]
        exact beq_false_of_ne c
    rw [e, Bool.eq_iff_iff]
    simp
theorem eqv_pr (a b : Pr) : PyData.eqv (dPr a) (dPr b) = decide (a = b) := by
  show (PyData.eqv (.int a.1) (.int b.1) && (PyData.eqvAll (a.2.map PyData.str) (b.2.map PyData.str) && true)) = _
  rw [eqv_strs]
  have e : PyData.eqv (.int a.1) (.int b.1) = decide (a.1 = b.1) := by
    show (a.1 == b.1) = _
    by_cases c : a.1 = b.1
    · rw [c]
      simp
    · rw [decide_eq_false c]
      exact beq_false_of_ne c
  rw [e, Bool.eq_iff_iff]
  obtain ⟨a1, a2⟩ := a
  obtain ⟨b1, b2⟩ := b
  simp
end K02
set_option Elab.async false
set_option linter.all false
set_option maxRecDepth 100000
set_option maxHeartbeats 8000000
namespace K02
open PySem PySem.Spec PyProof.Rows L2 PySem.W
abbrev lwS (x0 x1 x2 x3 x4 x5 x6 x7 x8 x9 x10 x11 x12 x13 x14 x15 x16 x17 x18 x19 x20 x21 x22 x23 x24 x25 x26 x27 x28 x29 : Option V) : Sl := [x0, x1, x2, x3, x4, x5, x6, x7, x8, x9, x10, x11, x12, x13, x14, x15, x16, x17, x18, x19, x20, x21, x22, x23, x24, x25, x26, x27, x28, x29]
def ifBody : List Stmt → List Stmt
  | .If _ a _ _ :: _ => a
  | _ => []
def lawBB : List Stmt := ifBody ((defBody s_law).drop 11)
def lawBC : List Stmt := (defBody s_law).drop 12
theorem shaped_pr {p : Pg} (o : PgOk p) {z : Pr} (h : ∀ r ∈ z.2, r ∈ p.regs) : SeqAt.shaped (dPr z) = true := by
  have h1 := shaped_prs o (ws := [z]) fun y hy => by
    rw [List.mem_singleton.mp hy]
    exact h
  have h2 : (dPr z).canLay0 = true := by
    have h3 : ((dPr z).canLay0 && true) = true := (Bool.and_eq_true_iff.mp h1).1
    rwa [Bool.and_true] at h3
  unfold SeqAt.shaped
  rw [h2, Bool.true_and]
  have := pr_ddepth z
  exact decide_eq_true (by omega)
theorem filt_map (f : Pr → Bool) : ∀ l : List Pr, (l.filterMap fun z => if f z = true then some (tyPr z) else none) = (l.filter f).map tyPr
  | [] => rfl
  | z :: l => by
    rw [List.filterMap_cons, List.filter_cons, filt_map f l]
    cases f z <;> rfl
theorem ev_sub {σ : Sl} {D : Hp} {te : TE} {t u : Ty} (s : Ty.Sub t u) (e : Ev te σ D t) : Ev te σ D u := fun D1 H k h Q q => e D1 H k h Q fun v D2 H2 g tv => q v D2 H2 g (s v D2 tv)
section
variable {P : Program} {w : World} {K : PySem.W.Frag} {mg : Str → Option Value} {base : Heap}
/-- law's answer where judge has said Thrifty -/
theorem law_B (F : Fc K mg) {f : Addr} {cdv : Value} {A : Around} {outer : List Env} {s : Shared} {H0 : Hp} {E : XK} (hr : Room 6 (A.deeper (envOfC "law" (defScope s_law) s.heap.objs.size f cdv))) :
    ∃ t, PSs (cxOf CX0 P w K mg base n_law "law" (defScope s_law) f cdv A outer s H0 E).nox lawBB t ∧
      ∀ (En : Ends) (D H : Hp) (p : Pg) (es : List Je) (ks : List Pr) (b : Bool) (vp v14 vf : V) (x0 x1 x2 x3 x4 x5 x6 x7 x8 x9 x10 x11 x12 x15 x17 x18 x19 x20 x21 x22 x23 x24 x25 x26 x27 x28 x29 : Option V),
        PgOk p → JInv p es [] → LwK p 40 ks b → NoLk D → Kp D H → (tyProg K p).p vp D → (tyL (ks.map tyPr)).p v14 D → (tyThr K (srtPr (es.map (·.1)))).p vf D → (∀ H', En.rt (.bl true) H') →
        t En (lwS x0 x1 x2 x3 x4 x5 x6 x7 x8 x9 x10 x11 x12 (some vp) (some v14) x15 (some vf) x17 x18 x19 x20 x21 x22 x23 x24 x25 x26 x27 x28 x29) H := by
  have nd := sc_law.nd
  have hu := Nat.lt_of_le_of_lt (Nat.add_le_add_left (by decide : 1 ≤ 64) _) hr.units
  have c_Thrifty := cal_Thrifty_init (P := P) (w := w) (base := base) F
  have c_Thrifty_shows := cal_Thrifty_shows (P := P) (w := w) (base := base) F
  have c_Thrifty_eq := cal_Thrifty_eq (P := P) (w := w) (base := base) F
  refine ⟨_, (pss_cons (ps_if (PW.pt (pw_or (pt_not (pt_val (pe_callB (k_all rfl) (by rfl) F.f_all bt_all (pa_cons (pe_lc (own := [("_law_pair", 21)]) rfl nd (k_pi_list (pv 14)) (blkOk_by (N := n_law) (sc := defScope s_law) (by decide +kernel)) (fun _ _ _ _ _ => (pg_name (i := 21) nd rfl (.inl rfl))) (fun _ _ _ _ _ => pts_nil) (fun _ _ _ _ _ => (pe_cmpR (k_inD (room65 hr)) (pv 21) (k_fld (pv 16) rfl) rfl))) pa_nil)))) (pw_or1 (pt_cmpR op_isnot_bl (pe_met c_Thrifty_shows hr (by decide) (pe_mak c_Thrifty hr (by decide) (by rfl) (pa_cons (pe_callTy k_tuple_of (by rfl) F.f_tuple bt_tuple (pa_cons (k_revL (pv 14)) pa_nil)) pa_nil)) (pa_cons (pv 13) pa_nil)) pe_bl (nomark _))))) (pss_one (ps_ret pe_bl)) pss_nil)
    (pss_cons (ps_for PassesOwn.never rfl (k_pi_list (pv 14)) (pg_name (i := 21) nd rfl (.inr rfl)) (pss_one (ps_if (pt_val (pe_met c_Thrifty_shows hr (by decide) (pe_mak c_Thrifty hr (by decide) (by rfl) (pa_cons (pe_lc (own := [("_law_one", 28)]) rfl nd (k_pi_list (pv 14)) (blkOk_by (N := n_law) (sc := defScope s_law) (by decide +kernel)) (fun _ _ _ _ _ => (pg_name (i := 28) nd rfl (.inl rfl))) (fun _ _ _ _ _ => pts_one (pt_cmpR (k_neD hr.units) (pv 28) (pv 21) (nomark _))) (fun _ _ _ _ _ => (pv 28))) pa_nil)) (pa_cons (pv 13) pa_nil))) (pss_one (ps_ret pe_bl)) pss_nil)))
    (pss_one (ps_ret (pe_or (pe_cmpR (k_eqD hr.units) (pv 14) (pe_lst pa_nil) (nomark _)) (pe_one (pe_cmpR (op_own c_Thrifty_eq hr (by decide)) (pe_mak c_Thrifty hr (by decide) (by rfl) (pa_cons (k_fld (pv 16) rfl) pa_nil)) (pv 16) (nomark _)))))))), ?_⟩
  intro En D H p es ks b vp v14 vf x0 x1 x2 x3 x4 x5 x6 x7 x8 x9 x10 x11 x12 x15 x17 x18 x19 x20 x21 x22 x23 x24 x25 x26 x27 x28 x29 o j lw nl k tp t14 tf q
  have same := lw.same o j (by decide)
  have kz := lw.len o
  have rgs : ∀ z ∈ ks, ∀ r ∈ z.2, r ∈ p.regs := fun z hz => (lw.ok o hz).1
  obtain ⟨ls, hls⟩ : ∃ ls, ls = srtPr (es.map (·.1)) := ⟨_, rfl⟩
  rw [← hls] at tf
  have lsm : ∀ z, z ∈ ls ↔ z ∈ ks := fun z => by
    rw [hls]
    exact (List.mergeSort_perm _ _).mem_iff.trans (same z).symm
  have lsr : ∀ z ∈ ls, ∀ r ∈ z.2, r ∈ p.regs := fun z hz => rgs z ((lsm z).mp hz)
  have lsl : ls.length ≤ 8 := by
    rw [hls, List.length_mergeSort, List.length_map]
    exact es_len o j.nd j.lv
  have okk : ∀ zs : List Pr, zs.Nodup → (∀ z ∈ zs, z ∈ ks) → KsOk p zs := fun zs n m => ⟨n, by
    have := nodup_sub_len n m
    omega, fun z hz => (lw.rg o z (m z hz)).1, fun z hz => ⟨rgs z (m z hz), by
    have := (lw.ok o (m z hz)).2
    omega⟩⟩
  refine sq_ifBN (v := false) (eb_or (a := false) (b := false) (eb_not (b := true) (eb_B (b := true) (eb_allT (xs := ks) (ev_lcm (out := fun _ => tyB true) tyPr (evi_list (ev_var (i := 14) rfl t14)).i (by omega) fun z hz D1 k1 x hx => lcel rfl (ev_op (ev_var (i := 21) rfl hx) (ev_fld (f := "lives") (t := tyL (ls.map tyPr)) (ev_var (t := tyThr K ls) (i := 16) rfl ((tyThr K _).up k1.q tf)) F.cls_Thrifty F.no_Thrifty_lives rfl) (rv_to (by
    rw [show (ls.map dPr).any (fun y => PyData.eqv y (dPr z)) = true from List.any_eq_true.mpr ⟨dPr z, List.mem_map.mpr ⟨z, (lsm z).mpr hz, rfl⟩, by rw [eqv_pr]; exact decide_eq_true rfl⟩]) (rv_inD (dp_pr z) (dp_lst dp_pr) (shaped_pr o (rgs z hz)) (shaped_prs o lsr)))))))) fun _ =>
    eb_B (b := false) (ev_op (ev_methN (p, ks.reverse) ⟨o, okk _ ((List.reverse_perm ks).nodup_iff.mpr lw.nd) fun z hz => List.mem_reverse.mp hz⟩ nl rfl (show ("shows" : Str) ∉ [("lives" : Str)] by decide +kernel) (ev_makeJ (x := ks.reverse) (by show ks.reverse.length ≤ 1000; rw [List.length_reverse]; omega) (ea_cons (ev_sub (fun v H h => .inr h) (ev_cb (ea_cons (ev_is (by rw [List.map_reverse]) (ev_revL (ev_var (t := tyL (ks.map tyPr)) (i := 14) rfl t14))) ea_nil) rc_tupL)) ea_nil)) (ea_cons (ev_var (t := tyProg K p) (i := 13) rfl tp) ea_nil)) (ev_c (v := .bl true)) (rv_to (by
      rw [show closP p ks.reverse = true from clos_yes j fun z => List.mem_reverse.trans (same z)]
      rfl) rv_isnot))) k (fun h => by cases h) fun _ D1 H1 g1 => ?_
  have nl1 := nl.up g1.d
  have t14a := Ty.up _ g1.d.q t14
  have tpa := (tyProg K p).up g1.d.q tp
  have tfa := (tyThr K ls).up g1.d.q tf
  refine st_for (D0 := D) (H0 := H) (xs := ks) (D := D1) tyPr (fun i s D' H' => ∃ x21, s = lwS x0 x1 x2 x3 x4 x5 x6 x7 x8 x9 x10 x11 x12 (some vp) (some v14) x15 (some vf) x17 x18 x19 x20 x21 x22 x23 x24 x25 x26 x27 x28 x29) (fun z _ => z) (evi_list (ev_var (t := tyL (ks.map tyPr)) (σ := lwS x0 x1 x2 x3 x4 x5 x6 x7 x8 x9 x10 x11 x12 (some vp) (some v14) x15 (some vf) x17 x18 x19 x20 x21 x22 x23 x24 x25 x26 x27 x28 x29) (i := 14) rfl t14a)).i g1 (fun D3 H3 g3 => ⟨x21, rfl⟩) ?_ ?_
  · rintro B kb i zp hi s1 D3 H3 v kD3 gH3 ⟨x21, rfl⟩ tv
    have hzp := List.mem_of_getElem? hi
    have kk := kb.trans kD3
    show tIfS _ _ _ _ (lwS x0 x1 x2 x3 x4 x5 x6 x7 x8 x9 x10 x11 x12 (some vp) (some v14) x15 (some vf) x17 x18 x19 x20 (some v) x22 x23 x24 x25 x26 x27 x28 x29) H3
    have fm : ∀ z, z ∈ ks.filter (fun z => !decide (z = zp)) ↔ z ∈ es.map (·.1) ∧ z ≠ zp := fun z => by
      rw [List.mem_filter, same z]
      simp
    refine st_ifN (eb_B (ev_is (by rw [show closP p (ks.filter fun z => !decide (z = zp)) = false from clos_no j ((same zp).mp hzp) fm]) (ev_methN (p, ks.filter fun z => !decide (z = zp)) ⟨o, okk _ (lw.nd.filter _) fun z hz => (List.mem_filter.mp hz).1⟩ (nl1.up kk) rfl (show ("shows" : Str) ∉ [("lives" : Str)] by decide +kernel) (ev_makeJ (x := ks.filter fun z => !decide (z = zp)) (by
      have := List.length_filter_le (fun z => !decide (z = zp)) ks
      show (ks.filter fun z => !decide (z = zp)).length ≤ 1000
      omega) (ea_cons (ev_sub (fun v H h => .inl h) (ev_is (by rw [filt_map]) (ev_lc (out := fun z => if (!decide (z = zp)) = true then some (tyPr z) else none) tyPr (evi_list (ev_var (i := 14) rfl (Ty.up _ kk.q t14a))).i (by omega) fun z hz D4 k4 x hx => lcel_if (b := !decide (z = zp)) rfl (eb_test (ev_op (ev_var (i := 28) rfl hx) (ev_var (i := 21) rfl (Ty.up _ k4.q tv)) (rv_to (by rw [eqv_pr]) (rv_neD (dp_pr z) (dp_pr zp) (shaped_pr o (rgs z hz)) (shaped_pr o (rgs zp hzp)))))) (fun h => ⟨tyPr z, if_pos h, ev_var (i := 28) rfl hx⟩) fun h => if_neg (by rw [h]; decide)))) ea_nil)) (ea_cons (ev_var (t := tyProg K p) (i := 13) rfl ((tyProg K p).up kk.q tpa)) ea_nil)))) gH3.dh fun D4 H4 g4 => ?_
    exact ⟨D4, kD3.trans g4.d, gH3.trans g4, some v, rfl⟩
  · rintro s1 D3 H3 kD3 gH3 ⟨x21, rfl⟩
    have e1 : Ev (tOp (rEqD K) (tVar 14) (tLst tNil)) (lwS x0 x1 x2 x3 x4 x5 x6 x7 x8 x9 x10 x11 x12 (some vp) (some v14) x15 (some vf) x17 x18 x19 x20 x21 x22 x23 x24 x25 x26 x27 x28 x29) D3 (tyB (PyData.eqv (.list (ks.map dPr)) (.list (([] : List Pr).map dPr)))) := ev_op (ev_var (i := 14) rfl (Ty.up _ kD3.q t14a)) (ev_lst (ts := []) ea_nil) (rv_eqD (dp_lst dp_pr) (dp_lst (xs := ([] : List Pr)) dp_pr) (shaped_prs o rgs) (shaped_prs o fun z hz => by cases hz))
    refine e1.use gH3.dh fun v D4 H4 g4 hv => ⟨_, hv, ?_⟩
    generalize PyData.eqv (.list (ks.map dPr)) (.list (([] : List Pr).map dPr)) = c
    cases c with
    | true => exact iteT (q H4)
    | false =>
      refine iteF ?_
      have k34 := kD3.trans g4.d
      have tf4 := (tyThr K ls).up k34.q tfa
      have e2 : Ev (tMake (TP K) (sp_Thrifty_init K) [] E0 (tCons (tFld K (tVar 16) "lives") tNil)) (lwS x0 x1 x2 x3 x4 x5 x6 x7 x8 x9 x10 x11 x12 (some vp) (some v14) x15 (some vf) x17 x18 x19 x20 x21 x22 x23 x24 x25 x26 x27 x28 x29) D4 (tyThr K ls) := ev_makeJ (x := ls) (by show ls.length ≤ 1000; omega) (ea_cons (ev_sub (fun v H h => .inl h) (ev_fld (f := "lives") (t := tyL (ls.map tyPr)) (ev_var (t := tyThr K ls) (i := 16) rfl tf4) F.cls_Thrifty F.no_Thrifty_lives rfl)) ea_nil)
      refine e2.use g4.dh fun va D5 H5 g5 ta => ⟨vf, rfl, ?_, fun H' _ => q H'⟩
      have tf5 := (tyThr K ls).up g5.d.q tf4
      have ta2 := ta
      have tf6 := tf5
      obtain ⟨a, dx, fs, rfl, ha, _⟩ := ta
      obtain ⟨b, dy, gs, rfl, hb, _⟩ := tf5
      exact ⟨a, b, dx, dy, fs, gs, rfl, rfl, g5.dh.q.fx (u := .ins _ dx fs) True.intro ha, g5.dh.q.fx (u := .ins _ dy gs) True.intro hb, ls, D5, g5.dh, ta2, tf6, shaped_prs o lsr⟩
end
end K02
set_option Elab.async false
set_option linter.all false
set_option maxRecDepth 100000
set_option maxHeartbeats 8000000
namespace K02
open PySem PySem.Spec PyProof.Rows L2 PySem.W
def scE : Scope := { kind := .function, names := [], isGenerator := false, isCoroutine := false }
/-- a block without free names within another -/
theorem blkOk_nf {N : List Str} {sc scope : Scope} {own : List (Str × Nat)} (h : blkC N scE scope own = true) : BlkOk N sc scope own := by
  have b := blkOk_by h
  exact ⟨b.kind, b.uniq, b.ix, fun y hy e => (by rcases b.free y hy e with h | h <;> cases h), b.own⟩
section
variable {P : Program} {w : World} {K : PySem.W.Frag} {mg : Str → Option Value} {base : Heap}
variable {σ : Sl} {D D' H H' : Hp} {te ta tb tk tv td : TE} {t u z : Ty} {ts : List Ty}
theorem ev_dictD {α : Type} {key : α → Key} {out : α → Ty} {xs : List α} (e : Ev te σ D (tyL (xs.map fun a => tyT [tyV (kV (key a)), out a]))) (nd : (xs.map key).Nodup) : Ev (tCB (rDictP K) (tCons te tNil)) σ D (tyD (xs.map fun a => (key a, out a))) := fun D1 H1 k h Q q => dictD (Ev.at_ (e.up k) h) nd Q q
/-- d[k] = v of a local dict with tuple keys, k new -/
theorem st_dputT {E : Ends} {i : Nat} {a : Addr} {acc : List (List Key × V)} {k : List Key} (hd : σ[i]? = some (some (.ref a))) (c : Loc a (.dT acc) D H) (ev : Ev tv σ D t) (ek : Ev tk σ D (tyKey k)) (kp : Kp D H) (z : acc.length < 100000) (no : k ∉ acc.map (·.1))
    (q : ∀ v D1 H1, Grow D H D1 H1 → t.p v D1 → Loc a (.dT acc) D1 H1 → E.nx σ (upd H1 a (.dT (acc ++ [(k, v)])))) : sDPut (tVar i) tk tv E σ H :=
  ev.use kp fun v D1 H1 g1 hv => ⟨.ref a, hd, (ek.up g1.d).use g1.dh fun y D2 H2 g2 hy => by
    obtain ⟨b, rfl, hb⟩ := key_at hy
    have c2 := c.grow (x := .dT acc) True.intro (g1.trans g2)
    have hp : putK acc k v = acc ++ [(k, v)] := putK_new v (valV_no no)
    refine ⟨a, _, rfl, DPut.t c2.h (g2.dh.q.fx (u := .tup _) True.intro hb) (Nat.lt_of_lt_of_le z (by decide)), ?_⟩
    rw [hp]
    exact q v D2 H2 (g1.trans g2) (t.up g2.d.q hv) c2⟩
theorem rc_lenSB {z : Str} (h : z.length ≤ 16777216) : RC (fun xs H Q => ∃ z, xs = [V.str z] ∧ z.length ≤ sizeLine ∧ Q (V.int z.length) H) [tyS z] (tyI (z.length : Nat)) := fun xs D H k h2 Q q => by
  obtain ⟨v, rfl, hv⟩ := args1 h2
  have hv : v = .str z := hv
  subst hv
  exact ⟨z, rfl, by rw [sizeLine_eq]; exact h, q _ D H (Grow.refl k) rfl⟩
theorem sg_txt {ls cs : List Nat} (h : ls = [97, 98] ∨ ls = [98]) (hc : ∀ c ∈ cs, c ∈ ls) : Sg (txt cs) := fun c hm => by
  rw [txt_list] at hm
  have h2 : ∀ c ∈ ([97, 98] : List Nat), c ∈ ("abcdefghijklmnopqrstuvwxyz0123456789" : Str).cps.toList := by decide +kernel
  have h3 := hc c hm
  rcases h with rfl | rfl
  · exact h2 c h3
  · exact h2 c (List.mem_cons_of_mem _ h3)
theorem shaped_tw {x : List Nat × List Nat × Str} (h1 : PyData.strOk (txt x.1) = true) (h2 : PyData.strOk (txt x.2.1) = true) (h3 : PyData.strOk x.2.2 = true) : SeqAt.shaped (dTw x) = true := by
  show ((PyData.strOk (txt x.1) && (PyData.strOk (txt x.2.1) && (PyData.strOk x.2.2 && true))) && true) = true
  rw [h1, h2, h3]
  rfl
abbrev markP (p : Pg) (nm : Str) : Pg := { p with fst := markF nm }
theorem filt_it : ∀ l : List Item, (l.filterMap fun i => if isR i = true then some (tyItem i) else none) = (l.filter isR).map tyItem
  | [] => rfl
  | i :: l => by
    rw [List.filterMap_cons, List.filter_cons, filt_it l]
    cases isR i <;> rfl
/-- law's answer where judge has said Twice -/
theorem law_C (F : Fc K mg) {f : Addr} {cdv : Value} {A : Around} {outer : List Env} {s : Shared} {H0 : Hp} {E : XK} (hr : Room 6 (A.deeper (envOfC "law" (defScope s_law) s.heap.objs.size f cdv))) :
    ∃ t, PSs (cxOf CX0 P w K mg base n_law "law" (defScope s_law) f cdv A outer s H0 E).nox lawBC t ∧
      ∀ (En : Ends) (D H : Hp) (p : Pg) (x : List Nat × List Nat × Str) (v3 v4 v5 v6 v7 v8 vp vf : V) (x0 x1 x2 x9 x10 x11 x12 x14 x15 x17 x18 x19 x20 x21 x22 x23 x24 x25 x26 x27 x28 x29 : Option V),
        PgC p → TwOk (normP p) x → NoLk D → Kp D H → (tyProg K (normP p)).p vp D → (tyTwi K x).p vf D → (tyS (txt p.ls)).p v3 D → (tyI p.n).p v4 D → (tyNames p.regs).p v5 D → (tySteps p).p v7 D → (tyEnds p).p v8 D → (∀ H', En.rt (.bl true) H') →
        t En (lwS x0 x1 x2 (some v3) (some v4) (some v5) (some v6) (some v7) (some v8) x9 x10 x11 x12 (some vp) x14 x15 (some vf) x17 x18 x19 x20 x21 x22 x23 x24 x25 x26 x27 x28 x29) H := by
  have nd := sc_law.nd
  have hu := Nat.lt_of_le_of_lt (Nat.add_le_add_left (by decide : 1 ≤ 64) _) hr.units
  have c_Program := cal_Program_init (P := P) (w := w) (base := base) F
  have c_Twice := cal_Twice_init (P := P) (w := w) (base := base) F
  have c_Twice_eq := cal_Twice_eq (P := P) (w := w) (base := base) F
  have c_after := cal_Program_after (P := P) (w := w) (base := base) F
  have c__law_write := cal_lwrite (P := P) (w := w) (base := base) F
  refine ⟨_, (pss_cons (ps_set (i := 22) nd rfl (.inl rfl) (pe_mak c_Program hr (by decide) (by rfl) (pa_cons (pv 3) (pa_cons (pv 4) (pa_cons (pv 5) (pa_cons (pe_callTy (k_dictP rfl) (by rfl) F.f_dict bt_dict (pa_cons (pe_lc (own := [("_law_name", 10)]) rfl nd (k_pi_list (pv 5)) (blkOk_by (N := n_law) (sc := defScope s_law) (by decide +kernel)) (fun _ _ _ _ _ => (pg_name (i := 10) nd rfl (.inl rfl))) (fun _ _ _ _ _ => pts_nil) (fun _ _ _ _ _ => (pe_tup (pa_cons (pv 10) (pa_cons (pe_ifExp (pt_cmpR op_eq (pv 10) (k_fld (pv 16) rfl) (nomark _)) pe_str pe_str) pa_nil))))) pa_nil)) (pa_cons (pv 7) (pa_cons (pv 8) pa_nil))))))))
    (pss_cons (ps_set (i := 23) nd rfl (.inl rfl) pe_dnewT)
    (pss_cons (ps_lock (ps_for PassesOwn.never rfl (pi_keys (pv 7)) (pg_name (i := 9) nd rfl (.inr rfl)) (pss_one (ps_dput hu (pv 23) (pv 9) (pe_tup (pa_cons (pe_ix k_ix_tup (pe_dget hu (pv 7) (pv 9) (fun _ _ => rfl)) pe_int (fun _ _ => rfl)) (pa_cons (pe_callTy (k_dictP rfl) (by rfl) F.f_dict bt_dict (pa_cons (pe_lc (own := [("_law_name", 10)]) rfl nd (k_pi_list (pv 5)) (blkOk_by (N := n_law) (sc := defScope s_law) (by decide +kernel)) (fun _ _ _ _ _ => (pg_name (i := 10) nd rfl (.inl rfl))) (fun _ _ _ _ _ => pts_nil) (fun _ _ _ _ _ => (pe_tup (pa_cons (pv 10) (pa_cons (pe_callTy k_tuple_of (by rfl) F.f_tuple bt_tuple (pa_cons (pe_lc (own := [("_law_item", 29)]) rfl nd (k_pi_tup (pe_dget hu (pe_ix k_ix_tup (pe_dget hu (pv 7) (pv 9) (fun _ _ => rfl)) pe_int (fun _ _ => rfl)) (pv 10) (fun _ _ => rfl))) (blkOk_nf (N := n_law) (by decide +kernel)) (fun _ _ _ _ _ => (pg_name (i := 29) nd rfl (.inl rfl))) (fun _ _ _ _ _ => pts_one (pt_val (pe_callB k_isi (by rfl) F.f_isinstance bt_isinstance (pa_cons (pv 29) (pa_cons (pe_bltn (v := .ty "tuple") (by rfl) F.f_tuple bt_tuple rfl) pa_nil))))) (fun _ _ _ _ _ => (pv 29))) pa_nil)) pa_nil))))) pa_nil)) pa_nil))) rfl))))
    (pss_cons (ps_set (i := 24) nd rfl (.inl rfl) (pe_callTy (k_dictP rfl) (by rfl) F.f_dict bt_dict (pa_cons (pe_lock (pe_lc (own := [("_law_state", 17)]) rfl nd (pi_keys (pv 8)) (blkOk_by (N := n_law) (sc := defScope s_law) (by decide +kernel)) (fun _ _ _ _ _ => (pg_name (i := 17) nd rfl (.inl rfl))) (fun _ _ _ _ _ => pts_nil) (fun _ _ _ _ _ => (pe_tup (pa_cons (pv 17) (pa_cons (pe_callTy k_tuple_of (by rfl) F.f_tuple bt_tuple (pa_cons (pe_lc (own := [("_law_item", 29)]) rfl nd (k_pi_tup (pe_dget hu (pv 8) (pv 17) (fun _ _ => rfl))) (blkOk_nf (N := n_law) (by decide +kernel)) (fun _ _ _ _ _ => (pg_name (i := 29) nd rfl (.inl rfl))) (fun _ _ _ _ _ => pts_one (pt_val (pe_callB k_isi (by rfl) F.f_isinstance bt_isinstance (pa_cons (pv 29) (pa_cons (pe_bltn (v := .ty "tuple") (by rfl) F.f_tuple bt_tuple rfl) pa_nil))))) (fun _ _ _ _ _ => (pv 29))) pa_nil)) pa_nil)))))) pa_nil)))
    (pss_cons (ps_set (i := 17) nd rfl (.inl rfl) (pe_ix k_ix_tup (pe_met c_after hr (by decide) (pv 13) (pa_cons (k_fld (pv 16) rfl) pa_nil)) pe_int (fun _ _ => rfl)))
    (pss_cons (ps_asg (pe_tup (pa_cons (pe_callTy (k_dictP rfl) (by rfl) F.f_dict bt_dict (pa_cons (pe_lc (own := [("_law_name", 10)]) rfl nd (k_pi_list (pv 5)) (blkOk_by (N := n_law) (sc := defScope s_law) (by decide +kernel)) (fun _ _ _ _ _ => (pg_name (i := 10) nd rfl (.inl rfl))) (fun _ _ _ _ _ => pts_nil) (fun _ _ _ _ _ => (pe_tup (pa_cons (pv 10) (pa_cons (pe_ifExp (pt_cmpR op_eq (pv 10) (k_fld (pv 16) rfl) (nomark _)) pe_str pe_str) pa_nil))))) pa_nil)) (pa_cons (pv 17) pa_nil))) (k_pg_tup (n := 2) rfl (pgs_cons (pg_name (i := 25) nd rfl (.inr rfl)) (pgs_cons (pg_name (i := 26) nd rfl (.inl rfl)) pgs_nil))))
    (pss_cons (ps_for PassesOwn.never rfl (pi_str (k_fld (pv 16) rfl)) (pg_name (i := 27) nd rfl (.inl rfl)) (pss_cons (ps_asg (pe_dget hu (pv 23) (pe_tup (pa_cons (pv 26) (pa_cons (pv 27) pa_nil))) (fun _ _ => rfl)) (k_pg_tup (n := 2) rfl (pgs_cons (pg_name (i := 11) nd rfl (.inl rfl)) (pgs_cons (pg_name (i := 12) nd rfl (.inr rfl)) pgs_nil))))
      (pss_one (ps_asg (pe_tup (pa_cons (pe_callTy (k_dictP rfl) (by rfl) F.f_dict bt_dict (pa_cons (pe_lc (own := [("_law_name", 10)]) rfl nd (k_pi_list (pv 5)) (blkOk_by (N := n_law) (sc := defScope s_law) (by decide +kernel)) (fun _ _ _ _ _ => (pg_name (i := 10) nd rfl (.inl rfl))) (fun _ _ _ _ _ => pts_nil) (fun _ _ _ _ _ => (pe_tup (pa_cons (pv 10) (pa_cons (pe_cal c__law_write hr (by decide) (by rfl) (pa_cons (pe_dget hu (pv 12) (pv 10) (fun _ _ => rfl)) (pa_cons (pv 25) pa_nil))) pa_nil))))) pa_nil)) (pa_cons (pv 11) pa_nil))) (k_pg_tup (n := 2) rfl (pgs_cons (pg_name (i := 25) nd rfl (.inr rfl)) (pgs_cons (pg_name (i := 26) nd rfl (.inl rfl)) pgs_nil)))))))
    (pss_cons (ps_if (PW.pt (pw_or (pt_cmp (pc_dnotin hu (pv 26) (pv 24))) (pw_or (pt_cmpR op_lt (pe_callB call_len_str (by rfl) F.f_len bt_len (pa_cons (pe_cal c__law_write hr (by decide) (by rfl) (pa_cons (pe_dget hu (pv 24) (pv 26) (fun _ _ => rfl)) (pa_cons (pv 25) pa_nil))) pa_nil)) pe_int (nomark _)) (pw_or1 (pt_cmpR op_ne (k_fld (pv 22) rfl) (k_fld (pv 13) rfl) (nomark _)))))) (pss_one (ps_ret pe_bl)) pss_nil)
    (pss_one (ps_ret (pe_cmpR (op_own c_Twice_eq hr (by decide)) (pe_mak c_Twice hr (by decide) (by rfl) (pa_cons (k_fld (pv 16) rfl) (pa_cons (k_fld (pv 16) rfl) (pa_cons (k_fld (pv 16) rfl) pa_nil)))) (pv 16) (nomark _)))))))))))), ?_⟩
  intro En D H p ⟨cs, rs, nm⟩ v3 v4 v5 v6 v7 v8 vp vf x0 x1 x2 x9 x10 x11 x12 x14 x15 x17 x18 x19 x20 x21 x22 x23 x24 x25 x26 x27 x28 x29 c tw nl k tp tf t3 t4 t5 t7 t8 q
  have o := c.ok
  have on := c.okN
  have hn := o.nLe
  have hrz := o.regsLen
  have hrn : p.regs.Nodup := by rcases c.regs with h | h | h <;> rw [h] <;> decide +kernel
  have two := mark_two tw
  obtain ⟨tz, tl, rz, rl, en, us, ct⟩ := tw
  dsimp only at tz tl rz rl en us ct two
  have en : runS p (runS p 0 cs) rs ∈ ens p := by
    rw [ens_norm] at en
    exact en
  have hst := run_ok o (s := 0) (by omega) tl
  have okm : PgC (markP p nm) := ⟨c.n, c.ls, c.regs, fun r hr => by
    show (markF nm r).length ≤ 100 ∧ Sg (markF nm r)
    have h1 : ("z" : Str).length ≤ 100 ∧ Sg ("z" : Str) := by
      unfold Sg
      decide +kernel
    have h2 : ("" : Str).length ≤ 100 ∧ Sg ("" : Str) := by
      unfold Sg
      decide +kernel
    unfold markF
    split
    · exact h1
    · exact h2, c.goal, c.row, c.en⟩
  refine sq_asg (t := tyProg K (normP (markP p nm))) (ev_make (x := (markP p nm)) okm.ok nl (ea_cons (ev_var (t := tyS (txt p.ls)) (i := 3) rfl t3) (ea_cons (ev_var (t := tyI p.n) (i := 4) rfl t4) (ea_cons (ev_var (t := tyNames p.regs) (i := 5) rfl t5) (ea_cons (t := tyHeld p.regs (markF nm)) (ev_dictD (xs := p.regs) (key := fun r => .inr r) (out := fun r => tyS (markF nm r)) (ev_lcm tyS (fun r => tyT [tyS r, tyS (markF nm r)]) (evi_list (ev_var (t := tyNames p.regs) (i := 5) rfl t5)).i (by omega) fun r hr D1 k1 y hy => lcel rfl (ev_tup (ts := [tyS r, tyS (markF nm r)]) (ea_cons (ev_var (i := 10) rfl hy) (ea_cons (ev_if (b := decide (r = nm)) (eb_test (ev_op (ev_var (i := 10) rfl hy) (ev_fld (f := "name") (t := tyS nm) (ev_var (t := tyTwi K (cs, rs, nm)) (i := 16) rfl ((tyTwi K _).up k1.q tf)) F.cls_Twice F.no_Twice_name rfl) (rv_eqS rfl))) (fun h => ev_is (by rw [show markF nm r = "z" from if_pos (of_decide_eq_true h)]) ev_c) (fun h => ev_is (by rw [show markF nm r = "" from if_neg (of_decide_eq_false h)]) ev_c)) ea_nil)))) (inr_nd hrn)) (ea_cons (ev_var (t := tySteps p) (i := 7) rfl t7) (ea_cons (ev_var (t := tyEnds p) (i := 8) rfl t8) ea_nil))))))) k fun vm D1 H1 g1 tm => ?_
  show tSeq _ _ _ (lwS x0 x1 x2 (some v3) (some v4) (some v5) (some v6) (some v7) (some v8) x9 x10 x11 x12 (some vp) x14 x15 (some vf) x17 x18 x19 x20 x21 (some vm) x23 x24 x25 x26 x27 x28 x29) H1
  intro ld hld
  have nl1 := nl.up g1.d
  have t7a := Ty.up _ g1.d.q t7
  obtain ⟨sd, kvs, rfl, hsd, hkv⟩ := tyE_at nl1 t7a
  have hsdH := g1.dh.exact (u := .dT kvs) True.intro hsd
  have nls : ld ≠ sd := fun e => by rw [← e, hld] at hsdH; cases hsdH
  have gC : Grow D1 H1 D1 (upd H1 ld (.dT [])) := (Grow.refl g1.dh).mut hld (g1.dh.dom hld) nf_dT
  have cC : Loc ld (.dT []) D1 (upd H1 ld (.dT [])) := Loc.new g1.dh hld
  have t5a := Ty.up _ g1.d.q t5
  have t8a := Ty.up _ g1.d.q t8
  have tpa := (tyProg K (normP p)).up g1.d.q tp
  have tfa := (tyTwi K (cs, rs, nm)).up g1.d.q tf
  change tSeq _ _ _ (lwS x0 x1 x2 (some v3) (some v4) (some v5) (some v6) (some (.ref sd)) (some v8) x9 x10 x11 x12 (some vp) x14 x15 (some vf) x17 x18 x19 x20 x21 (some vm) (some (.ref ld)) x24 x25 x26 x27 x28 x29) (upd H1 ld (.dT []))
  generalize upd H1 ld (.dT []) = H2 at gC cC ⊢
  refine sq_lock (σ := lwS x0 x1 x2 (some v3) (some v4) (some v5) (some v6) (some (.ref sd)) (some v8) x9 x10 x11 x12 (some vp) x14 x15 (some vf) x17 x18 x19 x20 x21 (some vm) (some (.ref ld)) x24 x25 x26 x27 x28 x29) (D := D1) hsd (x := .dT kvs) True.intro gC.dh fun od kq1 kp1 => ?_
  have lC : Loc ld (.dT []) (upd D1 sd (.frz od (.dT kvs))) (upd H2 sd (.frz od (.dT kvs))) := ⟨by rw [upd_ne nls]; exact cC.d, by rw [upd_ne nls]; exact cC.h⟩
  have hld2 : upd H1 sd (.frz od (.dT kvs)) ld = none := by rw [upd_ne nls]; exact hld
  refine st_for (D0 := upd D1 sd (.frz od (.dT kvs))) (H0 := upd H1 sd (.frz od (.dT kvs))) (xs := due p) (D := upd D1 sd (.frz od (.dT kvs))) tyBp (fun i s D' H' => ∃ acc x9, s = lwS x0 x1 x2 (some v3) (some v4) (some v5) (some v6) (some (.ref sd)) (some v8) x9 x10 x11 x12 (some vp) x14 x15 (some vf) x17 x18 x19 x20 x21 (some vm) (some (.ref ld)) x24 x25 x26 x27 x28 x29 ∧ Loc ld (.dT acc) D' H' ∧ KvsAt (((due p).take i).map fun y => (dkey y, tyStep p.regs (p.goal y.1 y.2, (lateP p nm).row y.1 y.2))) acc D') ?_ (by
    have := evi_keysT (pu_var (σ := lwS x0 x1 x2 (some v3) (some v4) (some v5) (some v6) (some (.ref sd)) (some v8) x9 x10 x11 x12 (some vp) x14 x15 (some vf) x17 x18 x19 x20 x21 (some vm) (some (.ref ld)) x24 x25 x26 x27 x28 x29) (i := 7) rfl) (upd_same (H := D1)) (KvsAt.up kq1 hkv)
    rw [List.map_map] at this
    exact this) gC.both (fun D3 H3 g3 => ⟨[], x9, rfl, lC.grow (x := .dT []) True.intro g3, .nil⟩) ?_ ?_
  · rintro i s D3 H3 D4 H4 ⟨acc, x9, e, c1, r⟩ g
    exact ⟨acc, x9, e, c1.grow (x := .dT acc) True.intro g, KvsAt.up g.d.q r⟩
  · rintro B kb i y hi s1 D3 H3 vy kD3 gH3 ⟨acc, x9, rfl, c3, r3⟩ ty
    have hym := List.mem_of_getElem? hi
    have hil := (List.getElem?_eq_some_iff.mp hi).1
    have kk := kq1.trans (kb.trans kD3).q
    have b5 := Ty.up _ kk t5a
    have b7 : (tySteps p).p (.ref sd) D3 := Ty.up _ kk t7a
    have dl := due_len o
    show sDPut _ _ _ _ (lwS x0 x1 x2 (some v3) (some v4) (some v5) (some v6) (some (.ref sd)) (some v8) (some vy) x10 x11 x12 (some vp) x14 x15 (some vf) x17 x18 x19 x20 x21 (some vm) (some (.ref ld)) x24 x25 x26 x27 x28 x29) H3
    refine st_dputT (i := 23) (k := dkey y) (t := tyStep p.regs (p.goal y.1 y.2, (lateP p nm).row y.1 y.2)) rfl c3 (ev_tup (ts := [tyI (p.goal y.1 y.2), tyRows p.regs ((lateP p nm).row y.1 y.2)]) (ea_cons (ev_op (ev_dgetT (k := dkey y) (ev_var (t := tySteps p) (i := 7) rfl b7) (ev_var (i := 9) rfl ty) (tys_step hym)) ev_c (rv_ixT (i := 0) rfl)) (ea_cons (ev_dictD (xs := p.regs) (key := fun r => .inr r) (out := fun r => tyRow ((lateP p nm).row y.1 y.2 r)) (ev_lcm tyS (fun r => tyT [tyS r, tyRow ((lateP p nm).row y.1 y.2 r)]) (evi_list (ev_var (t := tyNames p.regs) (i := 5) rfl b5)).i (by omega) fun r hr D4 k4 z hz => lcel rfl (ev_tup (ts := [tyS r, tyRow ((lateP p nm).row y.1 y.2 r)]) (ea_cons (ev_var (i := 10) rfl hz) (ea_cons (ev_cb (ea_cons (ev_is (congrArg tyL (filt_it _)) (ev_lc (out := fun i => if isR i = true then some (tyItem i) else none) tyItem (evi_tup (ev_dget (k := .inr r) (ev_op (ev_dgetT (k := dkey y) (ev_var (t := tySteps p) (i := 7) rfl (Ty.up _ k4.q b7)) (ev_var (i := 9) rfl (Ty.up _ k4.q ty)) (tys_step hym)) ev_c (rv_ixT (i := 1) rfl)) (ev_var (i := 10) rfl hz) (has_held (f := fun r => tyRow (p.row y.1 y.2 r)) hr))).i (Nat.le_trans (o.row y hym r hr).1 (by decide)) fun it hit D5 k5 zi hzi => by
      cases it with
      | inl s => exact lcel_if (b := false) rfl (eb_B (ev_isi (ev_var (i := 29) rfl hzi) is_inl (by decide +kernel))) (fun h => by cases h) fun _ => rfl
      | inr r2 => exact lcel_if (b := true) rfl (eb_B (ev_isi (ev_var (i := 29) rfl hzi) is_inr (by decide +kernel))) (fun _ => ⟨tyItem (.inr r2), rfl, ev_var (i := 29) rfl hzi⟩) fun h => by cases h)) ea_nil) rc_tupL) ea_nil)))) (inr_nd hrn)) ea_nil))) (ev_var (i := 9) rfl ty) gH3.dh (by
      have := pr_len r3
      rw [List.length_map, List.length_take] at this
      omega) (by
      rw [r3.keys, List.map_map]
      intro hm
      obtain ⟨y2, hy2, e⟩ := List.mem_map.mp hm
      have e : y2 = y := dkey_inj _ _ e
      subst e
      exact nd_take (key := fun k => k) (by rw [List.map_id']; exact due_nd o) hi y2 hy2 rfl) fun v10 D4 H4 g4 t10 c4 => ?_
    refine ⟨D4, kD3.trans g4.d, c4.set (gH3.trans g4) hld2 nf_dT, acc ++ [(dkey y, v10)], some vy, rfl, c4.put, ?_⟩
    rw [take_one hi, List.map_append]
    exact pr_app (KvsAt.up g4.d.q r3) (.cons ⟨rfl, t10⟩ .nil)
  · rintro s1 D3 H3 kD3 gH3 ⟨acc, x9, rfl, c3, r3⟩
    rw [List.take_length] at r3
    obtain ⟨z1, z2, z3, z4⟩ := unlock (x := .dT kvs) True.intro hsd hsdH gH3
    refine ⟨z1, ?_⟩
    dsimp only
    have m3 : Loc ld (.dT acc) (upd D3 sd (.dT kvs)) (upd H3 sd (.dT kvs)) := ⟨by rw [upd_ne nls]; exact c3.d, by rw [upd_ne nls]; exact c3.h⟩
    have r4 := KvsAt.up z4 r3
    obtain ⟨gO, kO⟩ := m3.own z3 hld (.inr True.intro)
    have tlt : (tySteps (lateP p nm)).p (.ref ld) (upd (upd D3 sd (.dT kvs)) ld (.dT acc)) := ⟨ld, acc, rfl, .inl upd_same, KvsAt.up kO.q r4⟩
    have kA := z3.d.trans kO
    generalize upd (upd D3 sd (.dT kvs)) ld (.dT acc) = D4 at gO kO tlt kA
    generalize upd H3 sd (.dT kvs) = H4 at gO ⊢
    have b5 := Ty.up _ kA.q t5a
    have b8 := Ty.up _ kA.q t8a
    have bp := (tyProg K (normP p)).up kA.q tpa
    have bf := (tyTwi K (cs, rs, nm)).up kA.q tfa
    have bm := Ty.up _ kA.q tm
    have nl4 := nl1.up kA
    clear r4 m3 z4 z2 z1 c3 r3 gH3 kD3 z3
    have hen := o.en
    refine sq_asg (t := tyD ((ens p).map fun s => ((Sum.inl s : Key), tyRow ((enr p s).filter isR)))) (ev_dictD (xs := ens p) (key := fun s => .inl s) (out := fun s => tyRow ((enr p s).filter isR)) (ev_lockK nl4.k (pu_var (i := 8) rfl) b8 fun D5 d5 o5 kv5 kq5 e5 p5 hd5 hv5 => ev_lcm tyI (fun s => tyT [tyI s, tyRow ((enr p s).filter isR)]) (by
      have := (evi_keys p5 hd5 hv5).i
      rw [List.map_map] at this
      exact this) (Nat.le_trans (ens_len o) (by decide)) fun s hs D6 k6 y hy => lcel rfl (ev_tup (ts := [tyI s, tyRow ((enr p s).filter isR)]) (ea_cons (ev_var (i := 17) rfl hy) (ea_cons (ev_cb (ea_cons (ev_is (congrArg tyL (filt_it _)) (ev_lc (out := fun i => if isR i = true then some (tyItem i) else none) tyItem (evi_tup (ev_dget (k := .inl s) (ev_var (t := tyEnds p) (i := 8) rfl (Ty.up _ (kq5.trans k6.q) b8)) (ev_var (i := 17) rfl hy) (tys_end hs))).i (Nat.le_trans (hen s hs).1 (by decide)) fun it hit D7 k7 zi hzi => by
      cases it with
      | inl s => exact lcel_if (b := false) rfl (eb_B (ev_isi (ev_var (i := 29) rfl hzi) is_inl (by decide +kernel))) (fun h => by cases h) fun _ => rfl
      | inr r2 => exact lcel_if (b := true) rfl (eb_B (ev_isi (ev_var (i := 29) rfl hzi) is_inr (by decide +kernel))) (fun _ => ⟨tyItem (.inr r2), rfl, ev_var (i := 29) rfl hzi⟩) fun h => by cases h)) ea_nil) rc_tupL) ea_nil)))) (List.Pairwise.map _ (fun a b h e => h (Sum.inl.inj e)) (ens_nd p))) gO.dh fun v24 D5 H5 g5 t24 => ?_
    have gP := gO.trans g5
    show tSeq _ _ _ (lwS x0 x1 x2 (some v3) (some v4) (some v5) (some v6) (some (.ref sd)) (some v8) x9 x10 x11 x12 (some vp) x14 x15 (some vf) x17 x18 x19 x20 x21 (some vm) (some (.ref ld)) (some v24) x25 x26 x27 x28 x29) H5
    have cp := (tyProg K (normP p)).up g5.d.q bp
    have cf := (tyTwi K (cs, rs, nm)).up g5.d.q bf
    refine sq_asg (t := tyI (runS p 0 cs)) (ev_op (ev_methN (B := fun x : Pg × List Nat => tyT [tyI (runS x.1 0 x.2), tyHeld x.1.regs (holdS x.1 0 x.1.fst x.2)]) (Cn := fun x => PgOk x.1 ∧ x.2.length ≤ 2 ∧ ∀ c ∈ x.2, c ∈ x.1.ls) (A := fun x : Pg × List Nat => [tyProg K x.1, tyS (txt x.2)]) (E := E0) (m := "after") (normP p, cs) ⟨on, tz, tl⟩ (nl4.up g5.d) rfl (show ("after" : Str) ∉ [("letters" : Str), "states", "registers", "firsts", "steps", "ends"] from by decide +kernel) (ev_var (t := tyProg K (normP p)) (i := 13) rfl cp) (ea_cons (ev_fld (f := "text") (t := tyS (txt cs)) (ev_var (t := tyTwi K (cs, rs, nm)) (i := 16) rfl cf) F.cls_Twice F.no_Twice_text rfl) ea_nil)) (ev_c (v := .int 0)) (rv_ixT (K := K) (i := 0) rfl)) gP.dh fun v17 D6 H6 g6 t17 => ?_
    have t17 : v17 = .int (runS p 0 cs) := t17
    subst t17
    show tSeq _ _ _ (lwS x0 x1 x2 (some v3) (some v4) (some v5) (some v6) (some (.ref sd)) (some v8) x9 x10 x11 x12 (some vp) x14 x15 (some vf) (some (.int (runS p 0 cs))) x18 x19 x20 x21 (some vm) (some (.ref ld)) (some v24) x25 x26 x27 x28 x29) H6
    have g56 := g5.d.trans g6.d
    have gQ := gP.trans g6
    have d5' := Ty.up _ g56.q b5
    have df := (tyTwi K (cs, rs, nm)).up g6.d.q cf
    refine sq_asgG (t := tyT [tyHeld p.regs (markF nm), tyI (runS p 0 cs)]) (ev_tup (ts := [tyHeld p.regs (markF nm), tyI (runS p 0 cs)]) (ea_cons (ev_dictD (xs := p.regs) (key := fun r => .inr r) (out := fun r => tyS (markF nm r)) (ev_lcm tyS (fun r => tyT [tyS r, tyS (markF nm r)]) (evi_list (ev_var (t := tyNames p.regs) (i := 5) rfl d5')).i (by omega) fun r hr D1 k1 y hy => lcel rfl (ev_tup (ts := [tyS r, tyS (markF nm r)]) (ea_cons (ev_var (i := 10) rfl hy) (ea_cons (ev_if (b := decide (r = nm)) (eb_test (ev_op (ev_var (i := 10) rfl hy) (ev_fld (f := "name") (t := tyS nm) (ev_var (t := tyTwi K (cs, rs, nm)) (i := 16) rfl ((tyTwi K _).up k1.q df)) F.cls_Twice F.no_Twice_name rfl) (rv_eqS rfl))) (fun h => ev_is (by rw [show markF nm r = "z" from if_pos (of_decide_eq_true h)]) ev_c) (fun h => ev_is (by rw [show markF nm r = "" from if_neg (of_decide_eq_false h)]) ev_c)) ea_nil)))) (inr_nd hrn)) (ea_cons (ev_var (i := 17) rfl rfl) ea_nil))) gQ.dh fun vt D7 H7 g7 t25 => ?_
    refine ga_2 (t := tyHeld p.regs (markF nm)) (u := tyI (runS p 0 cs)) g7.dh t25 fun vh v26 th t26 => ?_
    have t26 : v26 = .int (runS p 0 cs) := t26
    subst t26
    have gR := gQ.trans g7
    have g57 := g56.trans g7.d
    show tSeq _ _ _ (lwS x0 x1 x2 (some v3) (some v4) (some v5) (some v6) (some (.ref sd)) (some v8) x9 x10 x11 x12 (some vp) x14 x15 (some vf) (some (.int (runS p 0 cs))) x18 x19 x20 x21 (some vm) (some (.ref ld)) (some v24) (some vh) (some (.int (runS p 0 cs))) x27 x28 x29) H7
    have e5 := Ty.up _ g57.q b5
    have ef := (tyTwi K (cs, rs, nm)).up g7.d.q df
    have ep := (tyProg K (normP p)).up (g6.d.trans g7.d).q cp
    have em := Ty.up _ g57.q bm
    have el := Ty.up _ g57.q tlt
    have e24 := Ty.up _ (g6.d.trans g7.d).q t24
    refine st_for (D0 := D1) (H0 := H1) (D := D7) (xs := rs) (fun c => tyS (sign c)) (fun i s D H => ∃ vh x11 x12 x27, s = lwS x0 x1 x2 (some v3) (some v4) (some v5) (some v6) (some (.ref sd)) (some v8) x9 x10 x11 x12 (some vp) x14 x15 (some vf) (some (.int (runS p 0 cs))) x18 x19 x20 x21 (some vm) (some (.ref ld)) (some v24) (some vh) (some (.int (runS p (runS p 0 cs) (rs.take i)))) x27 x28 x29 ∧ (tyHeld p.regs (holdS (lateP p nm) (runS p 0 cs) (markF nm) (rs.take i))).p vh D ∧ ∀ r ∈ p.regs, (holdS (lateP p nm) (runS p 0 cs) (markF nm) (rs.take i) r).length ≤ 5 ^ i) ?_ (by
      have := evi_str (ev_fld (f := "rest") (t := tyS (txt rs)) (ev_var (t := tyTwi K (cs, rs, nm)) (σ := lwS x0 x1 x2 (some v3) (some v4) (some v5) (some v6) (some (.ref sd)) (some v8) x9 x10 x11 x12 (some vp) x14 x15 (some vf) (some (.int (runS p 0 cs))) x18 x19 x20 x21 (some vm) (some (.ref ld)) (some v24) (some vh) (some (.int (runS p 0 cs))) x27 x28 x29) (i := 16) rfl ef) F.cls_Twice F.no_Twice_rest rfl)
      rw [txt_list] at this
      exact this.i) gR (fun D8 H8 g8 => ⟨vh, x11, x12, x27, rfl, Ty.up _ g8.d.q th, fun r hr => by
        show (markF nm r).length ≤ 1
        rw [mark_len]
        unfold oneN
        split <;> omega⟩) ?_ ?_
    · rintro i s D3 H3 D4 H4 ⟨vh, x11, x12, x27, e, r, b⟩ g
      exact ⟨vh, x11, x12, x27, e, Ty.up _ g.d.q r, b⟩
    · rintro B kb i cc hi s1 D8 H8 vc kD8 gH8 ⟨vh, x11, x12, x27, rfl, th, bd⟩ tc
      have hcm := rl cc (List.mem_of_getElem? hi)
      have hil := (List.getElem?_eq_some_iff.mp hi).1
      have hs2 := run_ok o hst (cs := rs.take i) fun d hd => rl d (List.mem_of_mem_take hd)
      have kk := kb.trans kD8
      generalize hcur : runS p (runS p 0 cs) (rs.take i) = cur at hs2 ⊢
      generalize hg : holdS (lateP p nm) (runS p 0 cs) (markF nm) (rs.take i) = g at th bd ⊢
      have hdue : (cur, cc) ∈ due p := due_mem.mpr ⟨hs2, hcm⟩
      show tSeq _ _ _ (lwS x0 x1 x2 (some v3) (some v4) (some v5) (some v6) (some (.ref sd)) (some v8) x9 x10 x11 x12 (some vp) x14 x15 (some vf) (some (.int (runS p 0 cs))) x18 x19 x20 x21 (some vm) (some (.ref ld)) (some v24) (some vh) (some (.int cur)) (some vc) x28 x29) H8
      refine sq_asgG (t := tyStep p.regs (p.goal cur cc, (lateP p nm).row cur cc)) (ev_dgetT (k := dkey (cur, cc)) (ev_var (t := tySteps (lateP p nm)) (i := 23) rfl (Ty.up _ kk.q el)) (key_tup (x := (cur, cc)) (ev_var (i := 26) rfl rfl) (ev_var (i := 27) rfl tc)) (tys_step (p := lateP p nm) hdue)) gH8.dh fun v9 D9 H9 g9 t9 => ?_
      refine ga_2 (t := tyI (p.goal cur cc)) (u := tyRows p.regs ((lateP p nm).row cur cc)) g9.dh t9 fun xg vr tg tr => ?_
      have tg : xg = .int (p.goal cur cc) := tg
      subst tg
      show tAsg _ _ _ (lwS x0 x1 x2 (some v3) (some v4) (some v5) (some v6) (some (.ref sd)) (some v8) x9 x10 (some (.int (p.goal cur cc))) (some vr) (some vp) x14 x15 (some vf) (some (.int (runS p 0 cs))) x18 x19 x20 x21 (some vm) (some (.ref ld)) (some v24) (some vh) (some (.int cur)) (some vc) x28 x29) H9
      have f5 := Ty.up _ (kk.trans g9.d).q e5
      have fh := Ty.up _ g9.d.q th
      have pw : 5 ^ i ≤ 5 ^ 8 := Nat.pow_le_pow_right (by decide) (by omega)
      refine st_asgG (t := tyT [tyHeld p.regs (stepG (lateP p nm) cur cc g), tyI (p.goal cur cc)]) (ev_tup (ts := [tyHeld p.regs (stepG (lateP p nm) cur cc g), tyI (p.goal cur cc)]) (ea_cons (ev_dictD (xs := p.regs) (key := fun r => .inr r) (out := fun r => tyS (stepG (lateP p nm) cur cc g r)) (ev_lcm tyS (fun r => tyT [tyS r, tyS (stepG (lateP p nm) cur cc g r)]) (evi_list (ev_var (t := tyNames p.regs) (i := 5) rfl f5)).i (by omega) fun r hr D1 k1 y hy => lcel rfl (ev_tup (ts := [tyS r, tyS (stepG (lateP p nm) cur cc g r)]) (ea_cons (ev_var (i := 10) rfl hy) (ea_cons (ev_call ((lateP p nm).row cur cc r, p.regs, g) (by
        obtain ⟨l1, l2, l3⟩ := late_row c (nm := nm) bd (c.row (cur, cc) hdue r hr)
        exact ⟨Nat.le_trans l1 (by decide), l2, Nat.le_trans l3 (by omega)⟩) (ea_cons (ev_dget (k := .inr r) (ev_var (t := tyRows p.regs ((lateP p nm).row cur cc)) (i := 12) rfl (Ty.up _ k1.q tr)) (ev_var (i := 10) rfl hy) (has_held (f := fun r => tyRow ((lateP p nm).row cur cc r)) hr)) (ea_cons (ev_var (i := 25) rfl (Ty.up _ k1.q fh)) ea_nil))) ea_nil)))) (inr_nd hrn)) (ea_cons (ev_var (i := 11) rfl rfl) ea_nil))) g9.dh fun vt2 D10 H10 g10 tt2 => ?_
      refine ga_2 (t := tyHeld p.regs (stepG (lateP p nm) cur cc g)) (u := tyI (p.goal cur cc)) g10.dh tt2 fun vh2 vg2 th2 tg2 => ?_
      have tg2 : vg2 = .int (p.goal cur cc) := tg2
      subst tg2
      have e1 : runS p (runS p 0 cs) (rs.take (i + 1)) = p.goal cur cc := by rw [take_one hi, run_app, hcur]
      have e2 : holdS (lateP p nm) (runS p 0 cs) (markF nm) (rs.take (i + 1)) = stepG (lateP p nm) cur cc g := by rw [take_one hi, hold_app, run_late, hcur, hg]
      refine ⟨D10, (kD8.trans g9.d).trans g10.d, (gH8.trans g9).trans g10, vh2, some (.int (p.goal cur cc)), some vr, some vc, ?_, ?_, fun r hr => ?_⟩
      · rw [e1]
        rfl
      · rw [e2]
        exact th2
      · rw [e2]
        obtain ⟨l1, l2, l3⟩ := late_row c (nm := nm) bd (c.row (cur, cc) hdue r hr)
        have l4 := glue_eq (((p.row cur cc r).filter isR).map (itemS g))
        dsimp only at l3
        show (glue (((p.row cur cc r).filter isR).map (itemS g))).length ≤ 5 ^ (i + 1)
        rw [l4, Nat.pow_succ]
        omega
    · rintro s1 D8 H8 kD8 gH8 ⟨vh, x11, x12, x27, rfl, th, bd⟩
      rw [List.take_length] at th bd ⊢
      generalize hcur : runS p (runS p 0 cs) rs = cur at en two ⊢
      generalize hg : holdS (lateP p nm) (runS p 0 cs) (markF nm) rs = g at th bd two ⊢
      dsimp only
      have kE := gH8.dh
      have f24 := Ty.up _ kD8.q e24
      have ff := (tyTwi K (cs, rs, nm)).up kD8.q ef
      have fp := (tyProg K (normP p)).up kD8.q ep
      have fm := Ty.up _ kD8.q em
      have hE : Has ((ens p).map fun s => ((Sum.inl s : Key), tyRow ((enr p s).filter isR))) (Sum.inl cur) (tyRow ((enr p cur).filter isR)) := has_map (fun s : Int => (Sum.inl s : Key)) (fun s => tyRow ((enr p s).filter isR)) (fun a b e => Sum.inl.inj e) en
      have pw : 5 ^ rs.length ≤ 5 ^ 9 := Nat.pow_le_pow_right (by decide) rz
      obtain ⟨l1, l2, l3⟩ := late_row c (nm := nm) bd (c.en cur en)
      rw [enr_late] at two
      refine sq_ifBN (v := false) (eb_or (a := false) (b := false) (eb_B (ev_dnotin (k := .inl cur) (ev_var (t := tyD ((ens p).map fun s => ((Sum.inl s : Key), tyRow ((enr p s).filter isR)))) (i := 24) rfl f24) (ev_var (i := 26) rfl rfl) (.inl ⟨rfl, _, hE⟩))) fun _ => eb_or (a := false) (b := false) (eb_B (ev_op (ev_cb (ea_cons (ev_call ((enr p cur).filter isR, p.regs, g) ⟨Nat.le_trans l1 (by decide), l2, Nat.le_trans l3 (by omega)⟩ (ea_cons (ev_dget (k := .inl cur) (ev_var (t := tyD ((ens p).map fun s => ((Sum.inl s : Key), tyRow ((enr p s).filter isR)))) (i := 24) rfl f24) (ev_var (i := 26) rfl rfl) hE) (ea_cons (ev_var (t := tyHeld p.regs g) (i := 25) rfl th) ea_nil))) ea_nil) (rc_lenSB (by show (textR g ((enr p cur).filter isR)).length ≤ 16777216; exact Nat.le_trans (glue_len _) (Nat.le_trans l3 (by omega))))) (ev_c (v := .int 2)) (rv_lt (decide_eq_false (by show ¬ (((textR g ((enr p cur).filter isR)).length : Nat) : Int) < 2; omega))))) fun _ => eb_B (ev_op (ev_fld (f := "letters") (t := tyS (txt p.ls)) (ev_var (t := tyProg K (normP (markP p nm))) (i := 22) rfl fm) F.cls_Program F.no_Program_letters rfl) (ev_fld (f := "letters") (t := tyS (txt p.ls)) (ev_var (t := tyProg K (normP p)) (i := 13) rfl fp) F.cls_Program F.no_Program_letters rfl) (rv_to (by simp) (rv_ne (x := .str (txt p.ls)) (y := .str (txt p.ls)) rfl)))) kE (fun h => by cases h) fun _ D9 H9 g9 => ?_
      have hf := (tyTwi K (cs, rs, nm)).up g9.d.q ff
      have sh : SeqAt.shaped (dTw (cs, rs, nm)) = true := by
        refine shaped_tw (Sg.ok (sg_txt c.ls tl)) (Sg.ok (sg_txt c.ls rl)) (Sg.ok ?_)
        have h1 : nm ∈ p.regs := (us 0 (Nat.zero_le _)).1 nm (List.count_pos_iff.mp (Nat.lt_trans (Nat.lt_succ_self 0) ct))
        have h2 := (regs_names c.regs nm h1).2.2
        have h3 : ∀ c ∈ ("abcdefghijklmnopqrstuvwxyz" : Str).cps.toList, c ∈ ("abcdefghijklmnopqrstuvwxyz0123456789" : Str).cps.toList := by decide +kernel
        exact fun c hc => h3 c (h2 c hc)
      have e2 : Ev (tMake (WP K) (sp_Twice_init K) [] E0 (tCons (tFld K (tVar 16) "text") (tCons (tFld K (tVar 16) "rest") (tCons (tFld K (tVar 16) "name") tNil)))) (lwS x0 x1 x2 (some v3) (some v4) (some v5) (some v6) (some (.ref sd)) (some v8) x9 x10 x11 x12 (some vp) x14 x15 (some vf) (some (.int (runS p 0 cs))) x18 x19 x20 x21 (some vm) (some (.ref ld)) (some v24) (some vh) (some (.int cur)) x27 x28 x29) D9 (tyTwi K (cs, rs, nm)) := ev_makeJ (x := (cs, rs, nm)) True.intro (ea_cons (ev_fld (f := "text") (t := tyS (txt cs)) (ev_var (t := tyTwi K (cs, rs, nm)) (i := 16) rfl hf) F.cls_Twice F.no_Twice_text rfl) (ea_cons (ev_fld (f := "rest") (t := tyS (txt rs)) (ev_var (t := tyTwi K (cs, rs, nm)) (i := 16) rfl hf) F.cls_Twice F.no_Twice_rest rfl) (ea_cons (ev_fld (f := "name") (t := tyS nm) (ev_var (t := tyTwi K (cs, rs, nm)) (i := 16) rfl hf) F.cls_Twice F.no_Twice_name rfl) ea_nil)))
      unfold tRet tOp
      refine e2.use g9.dh fun va D10 H10 g10 ta => ⟨vf, rfl, ?_, fun H' _ => q H'⟩
      have tf5 := (tyTwi K (cs, rs, nm)).up g10.d.q hf
      have ta2 := ta
      have tf6 := tf5
      obtain ⟨a, dx, fs, rfl, ha, _⟩ := ta
      obtain ⟨b, dy, gs, rfl, hb, _⟩ := tf5
      exact ⟨a, b, dx, dy, fs, gs, rfl, rfl, g10.dh.q.fx (u := .ins _ dx fs) True.intro ha, g10.dh.q.fx (u := .ins _ dy gs) True.intro hb, (cs, rs, nm), D10, g10.dh, ta2, tf6, sh⟩
end
end K02
set_option Elab.async false
set_option linter.all false
set_option maxRecDepth 100000
set_option maxHeartbeats 8000000
namespace K02
open PySem PySem.Spec PyProof.Rows L2 PySem.W
section
variable {P : Program} {w : World} {K : PySem.W.Frag} {mg : Str → Option Value} {base : Heap}
variable {σ : Sl} {D D' H H' : Hp} {te ta tb tk tv td : TE} {t u z : Ty} {ts : List Ty} {C : Addr} {fts : List (Str × Ty)}
theorem eb_own {α : Type} {A : α → List Ty} {Cn : α → Prop} {b : Bool} (x : α) (c : Cn x) (hA : A x = [tyO C fts]) (e : Ev te σ D (tyO C fts)) : EvB (tOwnB C (SpF A (fun _ => tyB b) Cn) te) σ D b := fun D1 H k h Q q => e D1 H k h _ fun v D2 H2 g2 tv => by
  have tv2 := tv
  obtain ⟨a, dx, fs, rfl, ha, hv⟩ := tv
  exact ⟨a, dx, fs, rfl, g2.dh.q.fx (u := .ins C dx fs) True.intro ha, x, D2, c, g2.dh, by rw [hA]; exact .cons tv2 .nil, fun v D3 H3 g3 tb => ⟨b, tb, q D3 H3 (g2.trans g3)⟩⟩
theorem rc_own {α : Type} {A : α → List Ty} {Cn : α → Prop} {b : Bool} (x : α) (c : Cn x) (hA : A x = [tyO C fts]) : RC (fun xs H Q => ∃ a dx fs, xs = [V.ref a] ∧ H a = some (.ins C dx fs) ∧ SpF A (fun _ => tyB b) Cn [V.ref a] H (fun v H' => ∃ b, v = .bl b ∧ Q (.bl b) H') E0) [tyO C fts] (tyB b) := fun xs D H k h Q q => by
  obtain ⟨v, rfl, tv⟩ := args1 h
  have tv2 := tv
  obtain ⟨a, dx, fs, rfl, ha, hv⟩ := tv
  exact ⟨a, dx, fs, rfl, k.q.fx (u := .ins C dx fs) True.intro ha, x, D, c, k, by rw [hA]; exact .cons tv2 .nil, fun v D3 H3 g3 tb => ⟨b, tb, q _ D3 H3 g3 rfl⟩⟩
theorem rv_eqB {a b c : Bool} (h : decide (a = b) = c) : RV rEq (tyB a) (tyB b) (tyB c) := rv_to (by rw [← h]; simp) (rv_eq rfl)
def lawBA : List Stmt := (defBody s_law).drop 4
def tw2 (p : Pg) (l : List (Int × Nat)) : Bool := l.any fun y => !decide (usesOf (p.row y.1 y.2) p.regs).Nodup
def tw1 (p : Pg) : Bool := (ens p).any fun s => !decide (regsOf (enr p s)).Nodup
theorem tw_plain (p : Pg) : (tw1 p || tw2 p (due p)) = !plainP p := by
  unfold tw1 tw2 plainP
  rw [Bool.not_and, List.not_all_eq_any_not, List.not_all_eq_any_not, Bool.or_comm]
theorem ksOk_of {p : Pg} (o : PgOk p) {k : Nat} {ks zs : List Pr} {b : Bool} (lw : LwK p k ks b) (n : zs.Nodup) (m : ∀ z ∈ zs, z ∈ ks) : KsOk p zs := ⟨n, by
    have := nodup_sub_len n m
    have := lw.len o
    omega, fun z hz => (lw.rg o z (m z hz)).1, fun z hz => ⟨(lw.ok o (m z hz)).1, by
    have := (lw.ok o (m z hz)).2
    omega⟩⟩
theorem tw2_next {p : Pg} {l : List (Int × Nat)} {i : Nat} {y : Int × Nat} (h : l[i]? = some y) : tw2 p (l.take (i + 1)) = (tw2 p (l.take i) || !decide (usesOf (p.row y.1 y.2) p.regs).Nodup) := by
  unfold tw2
  rw [take_one h, List.any_append]
  simp
/-- law from the program on -/
theorem law_A (F : Fc K mg) {f : Addr} {cdv : Value} {A : Around} {outer : List Env} {s : Shared} {H0 : Hp} {E : XK} (hr : Room 6 (A.deeper (envOfC "law" (defScope s_law) s.heap.objs.size f cdv))) :
    ∃ t, PSs (cxOf CX0 P w K mg base n_law "law" (defScope s_law) f cdv A outer s H0 E).nox lawBA t ∧
      ∀ (En : Ends) (D H : Hp) (p : Pg) (v2 v3 v4 v5 v6 v7 v8 : V) (x0 x1 x9 x10 x11 x12 x13 x14 x15 x16 x17 x18 x19 x20 x21 x22 x23 x24 x25 x26 x27 x28 x29 : Option V),
        PgC p → NoLk D → Kp D H → (tyTold p).p v2 D → (tyS (txt p.ls)).p v3 D → (tyI p.n).p v4 D → (tyNames p.regs).p v5 D → (tyHeld p.regs p.fst).p v6 D → (tySteps p).p v7 D → (tyEnds p).p v8 D → (∀ H', En.rt (.bl true) H') →
        t En (lwS x0 x1 (some v2) (some v3) (some v4) (some v5) (some v6) (some v7) (some v8) x9 x10 x11 x12 x13 x14 x15 x16 x17 x18 x19 x20 x21 x22 x23 x24 x25 x26 x27 x28 x29) H := by
  have nd := sc_law.nd
  have hu := Nat.lt_of_le_of_lt (Nat.add_le_add_left (by decide : 1 ≤ 64) _) hr.units
  have c_Program := cal_Program_init (P := P) (w := w) (base := base) F
  have c__law_lives := cal_llives (P := P) (w := w) (base := base) F
  have c_judge_thrifty := cal_judge_thrifty (P := P) (w := w) (base := base) F
  have c_Tb := cal_Thrifty_bool (P := P) (w := w) (base := base) F
  have c_Wb := cal_Twice_bool (P := P) (w := w) (base := base) F
  have c_Thrifty_shows := cal_Thrifty_shows (P := P) (w := w) (base := base) F
  have c_Twice_shows := cal_Twice_shows (P := P) (w := w) (base := base) F
  have c__law_has_twice := cal_lhas_twice (P := P) (w := w) (base := base) F
  have c__law_uses := cal_luses (P := P) (w := w) (base := base) F
  have c_is_plain := cal_is_plain (P := P) (w := w) (base := base) F
  obtain ⟨tB, pB, qB⟩ := law_B (P := P) (w := w) (base := base) (outer := outer) (H0 := H0) (E := E) F hr
  obtain ⟨tC, pC, qC⟩ := law_C (P := P) (w := w) (base := base) (outer := outer) (H0 := H0) (E := E) F hr
  refine ⟨_, (pss_cons (ps_set (i := 13) nd rfl (.inl rfl) (pe_mak c_Program hr (by decide) (by rfl) (pa_cons (pv 3) (pa_cons (pv 4) (pa_cons (pv 5) (pa_cons (pv 6) (pa_cons (pv 7) (pa_cons (pv 8) pa_nil))))))))
    (pss_cons (ps_asg (pe_cal c__law_lives hr (by decide) (by rfl) (pa_cons (pv 2) pa_nil)) (k_pg_tup (n := 2) rfl (pgs_cons (pg_name (i := 14) nd rfl (.inl rfl)) (pgs_cons (pg_name (i := 15) nd rfl (.inl rfl)) pgs_nil))))
    (pss_cons (ps_set (i := 16) nd rfl (.inr rfl) (pe_cal c_judge_thrifty hr (by decide) (by rfl) (pa_cons (pv 13) pa_nil)))
    (pss_cons (ps_if (PW.pt (pw_or (pt_cmpR op_eq (pe_callTy (cr_or (call_boolI c_Tb hr (by decide)) (call_boolI c_Wb hr (by decide))) (by rfl) F.f_bool bt_bool (pa_cons (pv 16) pa_nil)) (pv 15) (nomark _)) (pw_or1 (pt_not (pt_val (pe_or2 (pe_met c_Thrifty_shows hr (by decide) (pv 16) (pa_cons (pv 13) pa_nil)) (pe_met c_Twice_shows hr (by decide) (pv 16) (pa_cons (pv 13) pa_nil)))))))) (pss_one (ps_ret pe_bl)) pss_nil)
    (pss_cons (ps_set (i := 18) nd rfl (.inl rfl) (pe_callB (k_any rfl) (by rfl) F.f_any bt_any (pa_cons (pe_lock (pe_lc (own := [("_law_state", 17)]) rfl nd (pi_keys (pv 8)) (blkOk_by (N := n_law) (sc := defScope s_law) (by decide +kernel)) (fun _ _ _ _ _ => (pg_name (i := 17) nd rfl (.inl rfl))) (fun _ _ _ _ _ => pts_nil) (fun _ _ _ _ _ => (pe_cal c__law_has_twice hr (by decide) (by rfl) (pa_cons (pe_cal c__law_uses hr (by decide) (by rfl) (pa_cons (pe_dget hu (pv 8) (pv 17) (fun _ _ => rfl)) pa_nil)) pa_nil))))) pa_nil)))
    (pss_cons (ps_lock (ps_for PassesOwn.never rfl (pi_keys (pv 7)) (pg_name (i := 9) nd rfl (.inr rfl)) (pss_cons (ps_set (i := 19) nd rfl (.inl rfl) (pe_lst pa_nil))
      (pss_cons (ps_lock (ps_for PassesOwn.never rfl (pi_values (pe_ix k_ix_tup (pe_dget hu (pv 7) (pv 9) (fun _ _ => rfl)) pe_int (fun _ _ => rfl))) (pg_name (i := 20) nd rfl (.inl rfl)) (pss_one (ps_set (i := 19) nd rfl (.inl rfl) (pe_op op_cat (pv 19) (pe_cal c__law_uses hr (by decide) (by rfl) (pa_cons (pv 20) pa_nil)))))))
      (pss_one (ps_set (i := 18) nd rfl (.inl rfl) (pe_or (pv 18) (pe_one (pe_cal c__law_has_twice hr (by decide) (by rfl) (pa_cons (pv 19) pa_nil))))))))))
    (pss_cons (ps_if (PW.pt (pw_or (pt_cmpR op_eq (pe_cal c_is_plain hr (by decide) (by rfl) (pa_cons (pv 13) pa_nil)) (pv 18) (nomark _)) (pw_or1 (PW.pt (pw_and (pt_val (pe_cal c_is_plain hr (by decide) (by rfl) (pa_cons (pv 13) pa_nil))) (pw_and1 (pt_val (pv 15)))))))) (pss_one (ps_ret pe_bl)) pss_nil)
    (pss_cons (ps_if (pt_or2 (pt_own c_Tb hr (by decide) (pv 16)) (pt_own c_Wb hr (by decide) (pv 16))) pB pss_nil) pC)))))))), ?_⟩
  intro En D H p v2 v3 v4 v5 v6 v7 v8 x0 x1 x9 x10 x11 x12 x13 x14 x15 x16 x17 x18 x19 x20 x21 x22 x23 x24 x25 x26 x27 x28 x29 c nl k t2 t3 t4 t5 t6 t7 t8 q
  have o := c.ok
  have on := c.okN
  have hrz := o.regsLen
  refine sq_asg (t := tyProg K (normP p)) (ev_make (x := p) o nl (ea_cons (ev_var (i := 3) rfl t3) (ea_cons (ev_var (i := 4) rfl t4) (ea_cons (ev_var (i := 5) rfl t5) (ea_cons (ev_var (i := 6) rfl t6) (ea_cons (ev_var (i := 7) rfl t7) (ea_cons (ev_var (i := 8) rfl t8) ea_nil))))))) k fun vp D1 H1 g1 tp => ?_
  have a2 := (tyTold p).up g1.d.q t2
  show tSeq _ _ _ (lwS x0 x1 (some v2) (some v3) (some v4) (some v5) (some v6) (some v7) (some v8) x9 x10 x11 x12 (some vp) x14 x15 x16 x17 x18 x19 x20 x21 x22 x23 x24 x25 x26 x27 x28 x29) H1
  refine sq_asgG (t := tyLv p) (ev_call p o (ea_cons (ev_var (t := tyTold p) (i := 2) rfl a2) ea_nil)) g1.dh fun vl D2 H2 g2 tl => ?_
  obtain ⟨ks, b, lw, tl⟩ := tl
  have lwn := lw.norm
  refine ga_2 (t := tyL (ks.map tyPr)) (u := tyB b) g2.dh tl fun v14 v15 t14 t15 => ?_
  have t15 : v15 = .bl b := t15
  subst t15
  have tp2 := (tyProg K (normP p)).up g2.d.q tp
  have gA := g1.trans g2
  have nl2 := nl.up gA.d
  show tSeq _ _ _ (lwS x0 x1 (some v2) (some v3) (some v4) (some v5) (some v6) (some v7) (some v8) x9 x10 x11 x12 (some vp) (some v14) (some (.bl b)) x16 x17 x18 x19 x20 x21 x22 x23 x24 x25 x26 x27 x28 x29) H2
  refine sq_asg (t := tyJ K (normP p)) (ev_callN (normP p) on nl2 (ea_cons (ev_var (t := tyProg K (normP p)) (i := 13) rfl tp2) ea_nil)) g2.dh fun vf D3 H3 g3 tj => ?_
  show tSeq _ _ _ (lwS x0 x1 (some v2) (some v3) (some v4) (some v5) (some v6) (some v7) (some v8) x9 x10 x11 x12 (some vp) (some v14) (some (.bl b)) (some vf) x17 x18 x19 x20 x21 x22 x23 x24 x25 x26 x27 x28 x29) H3
  have gB := gA.trans g3
  have nl3 := nl2.up g3.d
  have tp3 := (tyProg K (normP p)).up g3.d.q tp2
  refine sq_ifBN (v := false) ?_ g3.dh (fun h => by cases h) fun _ D4 H4 g4 => ?_
  · rcases tj with ⟨es, j, tf⟩ | ⟨x, tw, why, tf⟩
    · have same := lwn.same on j (by decide)
      have lsm : ∀ z ∈ srtPr (es.map (·.1)), z ∈ ks := fun z hz => (same z).mpr ((List.mergeSort_perm _ _).mem_iff.mp hz)
      have lsn : (srtPr (es.map (·.1))).Nodup := (List.mergeSort_perm _ _).nodup_iff.mpr j.nd
      have cl : closP (normP p) (srtPr (es.map (·.1))) = true := clos_yes j fun z => (List.mergeSort_perm _ _).mem_iff
      have hb := (lwn.sub j).1
      generalize srtPr (es.map (·.1)) = ls at lsm lsn cl tf
      exact eb_or (a := false) (b := false) (eb_test (ev_op (ev_cb (ea_cons (ev_var (t := tyThr K ls) (i := 16) rfl tf) ea_nil) (rc_l (rc_own ls True.intro rfl))) (ev_var (t := tyB b) (i := 15) rfl rfl) (rv_eqB (by rw [hb]; rfl)))) fun _ => eb_not (b := true) (eb_B (ev_l (ev_is (by rw [cl]) (ev_methN (normP p, ls) ⟨on, ksOk_of on lwn lsn lsm⟩ nl3 rfl (show ("shows" : Str) ∉ [("lives" : Str)] by decide +kernel) (ev_var (t := tyThr K ls) (i := 16) rfl tf) (ea_cons (ev_var (t := tyProg K (normP p)) (i := 13) rfl tp3) ea_nil)))))
    · have hb := lwn.twice (by decide) why
      exact eb_or (a := false) (b := false) (eb_test (ev_op (ev_cb (ea_cons (ev_var (t := tyTwi K x) (i := 16) rfl tf) ea_nil) (rc_r (rc_own x True.intro rfl))) (ev_var (t := tyB b) (i := 15) rfl rfl) (rv_eqB (by rw [hb]; rfl)))) fun _ => eb_not (b := true) (eb_B (ev_r (ev_methN (normP p, x) ⟨on, tw⟩ nl3 rfl (show ("shows" : Str) ∉ [("text" : Str), "rest", "name"] by decide +kernel) (ev_var (t := tyTwi K x) (i := 16) rfl tf) (ea_cons (ev_var (t := tyProg K (normP p)) (i := 13) rfl tp3) ea_nil))))
  have gC := gB.trans g4
  have nl4 := nl3.up g4.d
  have k14 := ((g1.d.trans g2.d).trans g3.d).trans g4.d
  have b7 := Ty.up _ k14.q t7
  have b8 := Ty.up _ k14.q t8
  refine sq_asg (t := tyB (tw1 p)) (ev_cb (ea_cons (ev_lockK nl4.k (pu_var (i := 8) rfl) b8 fun D6 d6 o6 kv6 kq6 e6 p6 hd6 hv6 => ev_lcm tyI (fun s => tyB (!decide (regsOf (enr p s)).Nodup)) (by
      have := (evi_keys p6 hd6 hv6).i
      rw [List.map_map] at this
      exact this) (Nat.le_trans (ens_len o) (by decide)) fun s hs D7 k7 y hy => lcel rfl (ev_call (regsOf (enr p s)) (Nat.le_trans (Nat.le_trans (regsOf_len _) (o.en s hs).1) (by decide)) (ea_cons (ev_call (enr p s) (Nat.le_trans (o.en s hs).1 (by decide)) (ea_cons (ev_dget (k := .inl s) (ev_var (t := tyEnds p) (i := 8) rfl (Ty.up _ (kq6.trans k7.q) b8)) (ev_var (i := 17) rfl hy) (tys_end hs)) ea_nil)) ea_nil))) ea_nil) rc_anyF) g4.dh fun v18 D5 H5 g5 t18 => ?_
  have t18 : v18 = .bl (tw1 p) := t18
  subst t18
  have gD := gC.trans g5
  have nl5 := nl4.up g5.d
  have k15 := k14.trans g5.d
  have c7 := Ty.up _ g5.d.q b7
  obtain ⟨sd, kvs, rfl, hsd, hkv⟩ := tyE_at nl5 c7
  have hsdH := g5.dh.exact (u := .dT kvs) True.intro hsd
  show tSeq _ _ _ (lwS x0 x1 (some v2) (some v3) (some v4) (some v5) (some v6) (some (.ref sd)) (some v8) x9 x10 x11 x12 (some vp) (some v14) (some (.bl b)) (some vf) x17 (some (.bl (tw1 p))) x19 x20 x21 x22 x23 x24 x25 x26 x27 x28 x29) H5
  refine sq_lock (σ := lwS x0 x1 (some v2) (some v3) (some v4) (some v5) (some v6) (some (.ref sd)) (some v8) x9 x10 x11 x12 (some vp) (some v14) (some (.bl b)) (some vf) x17 (some (.bl (tw1 p))) x19 x20 x21 x22 x23 x24 x25 x26 x27 x28 x29) (D := D5) hsd (x := .dT kvs) True.intro g5.dh fun od kq1 kp1 => ?_
  refine st_for (D0 := upd D5 sd (.frz od (.dT kvs))) (H0 := upd H5 sd (.frz od (.dT kvs))) (xs := due p) (D := upd D5 sd (.frz od (.dT kvs))) tyBp (fun i s D' H' => ∃ x9 x19 x20, s = lwS x0 x1 (some v2) (some v3) (some v4) (some v5) (some v6) (some (.ref sd)) (some v8) x9 x10 x11 x12 (some vp) (some v14) (some (.bl b)) (some vf) x17 (some (.bl (tw1 p || tw2 p ((due p).take i)))) x19 x20 x21 x22 x23 x24 x25 x26 x27 x28 x29) (fun z _ => z) (by
    have := evi_keysT (pu_var (σ := lwS x0 x1 (some v2) (some v3) (some v4) (some v5) (some v6) (some (.ref sd)) (some v8) x9 x10 x11 x12 (some vp) (some v14) (some (.bl b)) (some vf) x17 (some (.bl (tw1 p))) x19 x20 x21 x22 x23 x24 x25 x26 x27 x28 x29) (i := 7) rfl) (upd_same (H := D5)) (KvsAt.up kq1 hkv)
    rw [List.map_map] at this
    exact this) (Grow.refl kp1) (fun D6 H6 g6 => ⟨x9, x19, x20, by rw [show tw2 p ((due p).take 0) = false from rfl, Bool.or_false]⟩) ?_ ?_
  · rintro B kb i y hi s1 D6 H6 vy kD6 gH6 ⟨x9, x19, x20, rfl⟩ ty
    have hym := List.mem_of_getElem? hi
    have hz : (usesOf (p.row y.1 y.2) p.regs).length ≤ 1000 := Nat.le_trans (o.usesLen hym) (by decide)
    have kk := kb.trans kD6
    have nlk : NoLkK D6 := (nl5.k.lkT (d := sd) (od := od) (l := kvs)).up kk
    show tSeq _ _ _ (lwS x0 x1 (some v2) (some v3) (some v4) (some v5) (some v6) (some (.ref sd)) (some v8) (some vy) x10 x11 x12 (some vp) (some v14) (some (.bl b)) (some vf) x17 (some (.bl (tw1 p || tw2 p ((due p).take i)))) x19 x20 x21 x22 x23 x24 x25 x26 x27 x28 x29) H6
    generalize hb8 : (tw1 p || tw2 p ((due p).take i)) = b8
    refine sq_asg (t := tyL []) (ev_lst (ts := []) ea_nil) gH6.dh fun v19 D7 H7 g7 t19 => ?_
    show tSeq _ _ _ (lwS x0 x1 (some v2) (some v3) (some v4) (some v5) (some v6) (some (.ref sd)) (some v8) (some vy) x10 x11 x12 (some vp) (some v14) (some (.bl b)) (some vf) x17 (some (.bl b8)) (some v19) x20 x21 x22 x23 x24 x25 x26 x27 x28 x29) H7
    have d7 : (tySteps p).p (.ref sd) D7 := Ty.up _ (kq1.trans (kk.trans g7.d).q) c7
    have ty7 := Ty.up _ g7.d.q ty
    obtain ⟨w1, pw1, tw1'⟩ := pu_dgetT (k := dkey y) (pu_var (σ := lwS x0 x1 (some v2) (some v3) (some v4) (some v5) (some v6) (some (.ref sd)) (some v8) (some vy) x10 x11 x12 (some vp) (some v14) (some (.bl b)) (some vf) x17 (some (.bl b8)) (some v19) x20 x21 x22 x23 x24 x25 x26 x27 x28 x29) (D := D7) (i := 7) rfl) d7 (pu_var (i := 9) rfl) ty7 (tys_step hym)
    obtain ⟨w2, pw2, tw2'⟩ := pu_ixT (K := K) (i := 1) (t := tyRows p.regs (p.row y.1 y.2)) pw1 tw1' rfl
    obtain ⟨rd, kvr, rfl, hrd, hvr⟩ := tyD_at (nlk.up g7.d) tw2'
    have hrdH := g7.dh.exact (u := .dK kvr) True.intro hrd
    refine sq_lock (σ := lwS x0 x1 (some v2) (some v3) (some v4) (some v5) (some v6) (some (.ref sd)) (some v8) (some vy) x10 x11 x12 (some vp) (some v14) (some (.bl b)) (some vf) x17 (some (.bl b8)) (some v19) x20 x21 x22 x23 x24 x25 x26 x27 x28 x29) (D := D7) hrd (x := .dK kvr) True.intro g7.dh fun od2 kq2 kp2 => ?_
    refine st_for (D0 := upd D7 rd (.frz od2 (.dK kvr))) (H0 := upd H7 rd (.frz od2 (.dK kvr))) (xs := p.regs) (D := upd D7 rd (.frz od2 (.dK kvr))) (fun r => tyRow (p.row y.1 y.2 r)) (fun n s D' H' => ∃ v19 x20, s = lwS x0 x1 (some v2) (some v3) (some v4) (some v5) (some v6) (some (.ref sd)) (some v8) (some vy) x10 x11 x12 (some vp) (some v14) (some (.bl b)) (some vf) x17 (some (.bl b8)) (some v19) x20 x21 x22 x23 x24 x25 x26 x27 x28 x29 ∧ (tyNames (usesOf (p.row y.1 y.2) (p.regs.take n))).p v19 D') ?_ (by
      have := (evi_vals (pw2.up kq2) upd_same (KvsAt.up kq2 hvr)).i
      rw [List.map_map] at this
      exact this) (Grow.refl kp2) (fun D8 H8 g8 => ⟨v19, x20, rfl, Ty.up _ (kq2.trans g8.d.q) t19⟩) ?_ ?_
    · rintro i s D1 H1 D2 H2 ⟨v19, x20, e, r⟩ g
      exact ⟨v19, x20, e, Ty.up _ g.d.q r⟩
    · rintro B2 kb2 n r hn s2 D8 H8 vr kD8 gH8 ⟨v19, x20, rfl, t19⟩ tr
      have hrm := List.mem_of_getElem? hn
      have hnl := (List.getElem?_eq_some_iff.mp hn).1
      show tAsg _ _ _ (lwS x0 x1 (some v2) (some v3) (some v4) (some v5) (some v6) (some (.ref sd)) (some v8) (some vy) x10 x11 x12 (some vp) (some v14) (some (.bl b)) (some vf) x17 (some (.bl b8)) (some v19) (some vr) x21 x22 x23 x24 x25 x26 x27 x28 x29) H8
      have ul : (usesOf (p.row y.1 y.2) (p.regs.take n)).length ≤ 10 := by
        have h1 := uses_len (g := p.row y.1 y.2) (live := p.regs.take n) (z := 5) fun r hr => (o.row y hym r (List.mem_of_mem_take hr)).1
        rw [List.length_take] at h1
        omega
      have rl := Nat.le_trans (regsOf_len (p.row y.1 y.2 r)) (o.row y hym r hrm).1
      refine st_asg (t := tyNames (usesOf (p.row y.1 y.2) (p.regs.take (n + 1)))) (ev_is (by rw [uses_next hn]; exact congrArg tyL List.map_append.symm) (ev_op (ev_var (i := 19) rfl t19) (ev_call (p.row y.1 y.2 r) (Nat.le_trans (o.row y hym r hrm).1 (by decide)) (ea_cons (ev_var (t := tyRow (p.row y.1 y.2 r)) (i := 20) rfl tr) ea_nil)) (rv_cat (by rw [List.length_map, List.length_map]; omega)))) gH8.dh fun v9 D9 H9 g9 t9 => ?_
      exact ⟨D9, kD8.trans g9.d, gH8.trans g9, v9, some vr, rfl, t9⟩
    · rintro s2 D8 H8 kD8 gH8 ⟨v19, x20, rfl, t19⟩
      rw [List.take_length] at t19
      obtain ⟨z1, z2, z3, z4⟩ := unlock (x := .dK kvr) True.intro hrd hrdH gH8
      refine ⟨z1, ?_⟩
      dsimp only
      have t19' := Ty.up _ z4 t19
      have gZ := g7.trans z3
      refine st_asg (t := tyB (b8 || !decide (usesOf (p.row y.1 y.2) p.regs).Nodup)) (σ := lwS x0 x1 (some v2) (some v3) (some v4) (some v5) (some v6) (some (.ref sd)) (some v8) (some vy) x10 x11 x12 (some vp) (some v14) (some (.bl b)) (some vf) x17 (some (.bl b8)) (some v19) x20 x21 x22 x23 x24 x25 x26 x27 x28 x29) (ev_orV (ev_var (t := tyB b8) (i := 18) rfl rfl) fun _ => ev_call (usesOf (p.row y.1 y.2) p.regs) hz (ea_cons (ev_var (i := 19) rfl t19') ea_nil)) z3.dh fun v9 D9 H9 g9 t9 => ?_
      have t9 : v9 = .bl (b8 || !decide (usesOf (p.row y.1 y.2) p.regs).Nodup) := t9
      subst t9
      refine ⟨D9, kD6.trans (gZ.trans g9).d, gH6.trans (gZ.trans g9), some vy, some v19, x20, ?_⟩
      rw [tw2_next hi, ← Bool.or_assoc, hb8]
      rfl
  · rintro s1 D6 H6 kD6 gH6 ⟨x9, x19, x20, rfl⟩
    rw [List.take_length, tw_plain]
    obtain ⟨z1, z2, z3, z4⟩ := unlock (x := .dT kvs) True.intro hsd hsdH gH6
    refine ⟨z1, ?_⟩
    dsimp only
    have gE := gD.trans z3
    have nl6 := nl5.up z3.d
    have k35 := (g4.d.trans g5.d).trans z3.d
    have tp6 := (tyProg K (normP p)).up k35.q tp3
    have pl := plain_norm p
    generalize upd D6 sd (.dT kvs) = D7 at z3 gE nl6 k35 tp6
    generalize upd H6 sd (.dT kvs) = H7 at z3 gE ⊢
    have pn : ∀ {σ : Sl}, σ[13]? = some (some vp) → Ev (tCall (sp_is_plain K) [] E0 (tCons (tVar 13) tNil)) σ D7 (tyB (plainP p)) := fun h => ev_is (by rw [pl]) (ev_callN (normP p) on nl6 (ea_cons (ev_var (t := tyProg K (normP p)) (i := 13) h tp6) ea_nil))
    refine sq_ifBN (v := false) (eb_or (a := false) (b := false) (eb_test (ev_op (pn rfl) (ev_var (t := tyB (!plainP p)) (i := 18) rfl rfl) (rv_eqB (by cases plainP p <;> rfl)))) fun _ => eb_is (a := plainP p && b) (by
      cases h : plainP p with
      | false => rfl
      | true => rw [(lwn.plain on (by rw [pl, h])).1]; rfl) (eb_and (eb_B (pn rfl)) fun _ => eb_B (ev_var (t := tyB b) (i := 15) rfl rfl))) gE.dh (fun h => by cases h) fun _ D8 H8 g8 => ?_
    have k08 := (((k14.trans g5.d).trans z3.d).trans g8.d)
    have k28 := ((g3.d.trans k35).trans g8.d)
    have nl8 := nl6.up g8.d
    have tp8 := (tyProg K (normP p)).up g8.d.q tp6
    rcases tj with ⟨es, j, tf⟩ | ⟨x, tw, why, tf⟩
    · have tf8 := (tyThr K (srtPr (es.map (·.1)))).up (k35.trans g8.d).q tf
      refine sq_ifT (eb_l (eb_own (srtPr (es.map (·.1))) True.intro rfl (ev_var (t := tyThr K (srtPr (es.map (·.1)))) (i := 16) rfl tf8))) g8.dh fun D9 H9 g9 => ?_
      exact qB _ D9 H9 (normP p) es ks b vp v14 vf _ _ _ _ _ _ _ _ _ _ _ _ _ _ _ _ _ _ _ _ _ _ _ _ _ _ _ on j lwn (nl8.up g9.d) g9.dh ((tyProg K (normP p)).up g9.d.q tp8) (Ty.up _ (k28.trans g9.d).q t14) ((tyThr K _).up g9.d.q tf8) q
    · have tf8 := (tyTwi K x).up (k35.trans g8.d).q tf
      refine sq_ifN (eb_r (eb_own x True.intro rfl (ev_var (t := tyTwi K x) (i := 16) rfl tf8))) g8.dh fun D9 H9 g9 => ?_
      have k09 := (k08.trans g9.d).q
      exact qC _ D9 H9 p x v3 v4 v5 v6 (.ref sd) v8 vp vf _ _ _ _ _ _ _ _ _ _ _ _ _ _ _ _ _ _ _ _ _ _ c tw (nl8.up g9.d) g9.dh ((tyProg K (normP p)).up g9.d.q tp8) ((tyTwi K x).up g9.d.q tf8) (Ty.up _ k09 t3) (Ty.up _ k09 t4) (Ty.up _ k09 t5) (Ty.up _ k09 t7) (Ty.up _ k09 t8) q
end
end K02
set_option Elab.async false
set_option linter.all false
set_option maxRecDepth 100000
set_option maxHeartbeats 8000000
namespace K02
open PySem PySem.Spec PyProof.Rows L2 PySem.W
section
variable {P : Program} {w : World} {K : PySem.W.Frag} {mg : Str → Option Value} {base : Heap}
variable {σ : Sl} {D D' H H' D0 H0 : Hp} {te ta tb tk tv td : TE} {t u z : Ty} {ts : List Ty}
theorem cut_ints (ns : List Int) (lo hi : Option Int) : ∃ ns2 : List Int, cutV (ns.map V.int) lo hi = ns2.map V.int := ⟨_, by
  unfold cutV
  rw [← List.map_drop, ← List.map_take]⟩
theorem sq_join {E : Ends} {c : TT} {a b : TS} (J : Sl → Hp → Prop) (rest : ∀ σ H, J σ H → b E σ H) (h : (∀ σ H, J σ H → b E σ H) → tIfS c a tNext { E with nx := b E } σ H) : tSeq (tIfS c a tNext) b E σ H := h rest
theorem ga_6 {i1 i2 i3 i4 i5 i6 : Nat} {T : Addr} {v1 v2 v3 v4 v5 v6 : V} {Q : Sl → Hp → Prop} (k : Kp D H) (hT : D T = some (.tup [v1, v2, v3, v4, v5, v6])) (q : Q ((((((σ.set i1 (some v1)).set i2 (some v2)).set i3 (some v3)).set i4 (some v4)).set i5 (some v5)).set i6 (some v6)) H) :
    gTup K 6 (gCons (gName i1) (gCons (gName i2) (gCons (gName i3) (gCons (gName i4) (gCons (gName i5) (gCons (gName i6) gNil)))))) (.ref T) σ H Q :=
  ⟨T, _, rfl, SqT.of (k.q.fx (u := .tup _) True.intro hT), rfl, _, _, rfl, _, _, rfl, _, _, rfl, _, _, rfl, _, _, rfl, _, _, rfl, rfl, q⟩
theorem sqS_asg {E : Ends} {g : TG} {b : TS} {d : Dw} (e : EvS d D0 H0 te σ D H t) (h : ∀ v D1 H1, Stp d D0 H0 D H D1 H1 → t.p v D1 → g v σ H1 (b E)) : tSeq (tAsg te g) b E σ H := e _ h
theorem sqA_asg {E : Ends} {g : TG} {b : TS} (e : EvAt te σ D H t) (h : ∀ v D1 H1, Grow D H D1 H1 → t.p v D1 → g v σ H1 (b E)) : tSeq (tAsg te g) b E σ H := e _ h
theorem evs_pickA {d : Dw} {i : Nat} (hm : 0 < ts.length) (hl : σ[i]? = some (some (.ref d.dl))) (e : EvAt te σ D H (tyL ts)) (g : Grow D0 H0 D H) (h0 : H0 d.dl = none) (r : Dr d D H) : EvS d D0 H0 (tCall sp_pick [] E0 (tCons (tVar i) (tCons te tNil))) σ D H (tyAny ts) := fun Q q =>
  ⟨.ref d.dl, hl, e _ fun v D2 H2 g2 tv => ⟨ts, d, D2, D0, H0, [v], rfl, hm, g.trans g2, h0, r.grow g2, .cons tv .nil, fun v3 D3 H3 k3 g3 r3 l3 tb => q v3 D3 H3 ⟨g2.d.trans k3, g3, r3, fun a y n f l => l3 a y n f (l.grow f g2)⟩ tb⟩⟩
/-- sorted(steps), where they may change -/
theorem srt_loc {p : Pg} (o : PgOk p) {i : Nat} {a : Addr} {kvs : List (List Key × V)} (hd : σ[i]? = some (some (.ref a))) (c : Loc a (.dT kvs) D H) (k : Kp D H) (hk : kvs.map (·.1) = (due p).map dkey) :
    EvAt (tCB (fun xs H Q => ∃ (a : Addr) (kvs : List (List Key × V)) (ks : List (Int × Nat)), xs = [V.ref a] ∧ Rd H a (.dT kvs) ∧ kvs.map (·.1) = ks.map dkey ∧ ks.length ≤ 100000 ∧
      ∀ ys p, Paired (fun (x : V) (y : Int × Nat) => ∃ q, x = .ref q ∧ H q = some (.tup ((dkey y).map kV))) ys (ks.mergeSort (dataLe false dDue)) → H p = none → Q (.ref p) (upd H p (.lst ys))) (tCons (tVar i) tNil)) σ D H (tyL ((due p).map tyBp)) := fun Q q =>
  ⟨.ref a, hd, a, kvs, due p, rfl, .inl c.h, hk, Nat.le_trans (due_len o) (by decide), fun ys l r hl => by
    rw [srt_due o] at r
    have g := (Grow.refl k).add (u := .lst ys) hl (.inl True.intro)
    have kH : Kq H (upd H l (.lst ys)) := (Kp.new hl (nofz_of (.inl (show Fixd (.lst ys) from True.intro)))).q
    have : ∀ (ys2 : List V) (ds : List (Int × Nat)), Paired (fun (x : V) (y : Int × Nat) => ∃ q, x = .ref q ∧ H q = some (.tup ((dkey y).map kV))) ys2 ds → ∃ D3, Grow D H D3 (upd H l (.lst ys)) ∧ Kp (upd D l (.lst ys)) D3 ∧ TysAt (ds.map tyBp) ys2 D3 := by
      intro ys2 ds r
      induction r with
      | nil => exact ⟨_, g, Kp.refl _, .nil⟩
      | @cons x y xs ys r1 r2 ih =>
        obtain ⟨D3, g3, k3, t3⟩ := ih
        obtain ⟨q1, rfl, hq⟩ := r1
        obtain ⟨D4, g4, k4, h4⟩ := g3.seen (kH.fx (u := .tup _) True.intro hq)
        exact ⟨D4, g4, k3.trans k4, .cons ⟨q1, _, rfl, h4, .cons rfl (.cons rfl .nil)⟩ (TysAt.up k4.q t3)⟩
    obtain ⟨D3, g3, k3, t3⟩ := this ys (due p) r
    exact q (.ref l) D3 _ g3 ⟨l, ys, rfl, k3.q.fx (u := .lst ys) True.intro upd_same, t3⟩⟩
theorem get_locE {i j : Nat} {d : Addr} {acc : List (List Key × V)} {kts : List (List Key × Ty)} {k : List Key} {kv : V} (hd : σ[i]? = some (some (.ref d))) (hk : σ[j]? = some (some kv)) (c : Loc d (.dT acc) D H) (r : KvsAt kts acc D) (kp : Kp D H) (tk : (tyKey k).p kv D) (h : Has kts k t) : EvAt (tDGet (tVar i) (tVar j)) σ D H t := fun Q q => by
  obtain ⟨b, rfl, hb⟩ := key_at tk
  obtain ⟨w, e1, e2⟩ := (lookup_at r k).1 t h
  exact ⟨.ref d, hd, .ref b, hk, d, w, rfl, .inr ⟨acc, k, b, .inl c.h, rfl, kp.q.fx (u := .tup _) True.intro hb, e1.symm⟩, q w D H (Grow.refl kp) e2⟩
/-- d[k] = v of a local dict with tuple keys -/
theorem st_dputE {E : Ends} {i j : Nat} {a : Addr} {acc : List (List Key × V)} {k : List Key} {kv : V} (hd : σ[i]? = some (some (.ref a))) (hj : σ[j]? = some (some kv)) (c : Loc a (.dT acc) D H) (ev : Ev tv σ D t) (tk : (tyKey k).p kv D) (kp : Kp D H) (z : acc.length < 100000)
    (q : ∀ v D1 H1, Grow D H D1 H1 → t.p v D1 → Loc a (.dT acc) D1 H1 → E.nx σ (upd H1 a (.dT (putK acc k v)))) : sDPut (tVar i) (tVar j) tv E σ H :=
  ev.use kp fun v D1 H1 g1 hv => by
    obtain ⟨b, rfl, hb⟩ := key_at tk
    have c2 := c.grow (x := .dT acc) True.intro g1
    exact ⟨.ref a, hd, .ref b, hj, a, _, rfl, DPut.t c2.h (g1.dh.q.fx (u := .tup _) True.intro (g1.d.q.fx (u := .tup _) True.intro hb)) (Nat.lt_of_lt_of_le z (by decide)), q v D1 H1 g1 hv c2⟩
theorem PgB.c {p : Pg} (b : PgB p) : PgC p := ⟨b.n, b.ls, b.regs, fun r hr => ⟨Nat.le_trans (txs_ok _ (b.fst r hr)).1 (by decide), (txs_ok _ (b.fst r hr)).2⟩, b.goal, fun x hx r hr => (b.row x hx r hr).mono (by decide), fun s hs => (b.en s hs).mono (by decide)⟩
/-- a register more in the first row of one step -/
def moreRow (p : Pg) (y : Int × Nat) (r0 nm : Str) : Str → List Item := fun r => if r = r0 then p.row y.1 y.2 r ++ [.inr nm] else p.row y.1 y.2 r
abbrev moreReg (p : Pg) (y : Int × Nat) (r0 nm : Str) : Pg := addStep p y (p.goal y.1 y.2) (moreRow p y r0 nm)
theorem more_goal {p : Pg} {y : Int × Nat} {r0 nm : Str} (x : Int × Nat) : (moreReg p y r0 nm).goal x.1 x.2 = p.goal x.1 x.2 := by
  by_cases c : x = y
  · subst c
    exact addStep_new.1
  · exact (addStep_old c).1
theorem PgB.more {p : Pg} (b : PgB p) {y : Int × Nat} {r0 nm : Str} (hy : y ∈ due p) (hn : nm ∈ p.regs) : PgC (moreReg p y r0 nm) :=
  ⟨b.n, b.ls, b.regs, b.c.fst, fun x hx => by
    rw [more_goal]
    exact b.goal x hx, fun x hx r hr => by
    by_cases c : x = y
    · subst c
      rw [addStep_new.2]
      unfold moreRow
      split
      · exact (b.row x hx r hr).app (.reg hn)
      · exact (b.row x hx r hr).mono (by decide)
    · rw [(addStep_old c).2]
      exact (b.row x hx r hr).mono (by decide), b.c.en⟩
def sp_law (K : PySem.W.Frag) : Sp := fun vs H Q _ => ∃ (a : Addr) (ns : List Int), vs = [.ref a] ∧ SqL K H a (ns.map V.int) ∧ Only H ∧ ∀ H', Q (.bl true) H'
/-- after the draws -/
def LawJ (a dl T sa : Addr) (v4 v5 v7 : V) (H : Hp) (σ : Sl) (H' : Hp) : Prop := ∃ (p : Pg) (D' : Hp) (kS : List (List Key × V)) (x9 x10 x11 x12 : Option V), PgC p ∧ Grow H H D' H' ∧
  σ = lwS (some (.ref a)) (some (.ref dl)) (some (.ref T)) (some (.str (txt p.ls))) (some (.int p.n)) (some v4) (some v5) (some (.ref sa)) (some v7) x9 x10 x11 x12 none none none none none none none none none none none none none none none none none ∧
  D' T = some (.tup [.str (txt p.ls), .int p.n, v4, v5, .ref sa, v7]) ∧ (tyNames p.regs).p v4 D' ∧ (tyHeld p.regs p.fst).p v5 D' ∧ (tyEnds p).p v7 D' ∧ Loc sa (.dT kS) D' H' ∧ KvsAt ((due p).map fun x => (dkey x, tyStep p.regs (p.goal x.1 x.2, p.row x.1 x.2))) kS D'
theorem law_hb (F : Fc K mg) : ∀ (f : Addr) (cdv : Value) (A : Around) (outer : List Env) (s : Shared) (H : Hp) (vs : List V) (Q : VK) (E : XK), Room 6 (A.deeper (envOfC "law" (defScope s_law) s.heap.objs.size f cdv)) → sp_law K vs H Q E →
    ∃ t, PSs (cxOf CX0 P w K mg base n_law "law" (defScope s_law) f cdv A outer s H E).nox (defBody s_law) t ∧ t { nx := fun _ H' => Q .non H', rt := Q } (start n_law vs) H := fun f cdv A outer s H vs Q E hr h => by
  have nd := sc_law.nd
  have hu := Nat.lt_of_le_of_lt (Nat.add_le_add_left (by decide : 1 ≤ 64) _) hr.units
  have c__law_program := cal_program (P := P) (w := w) (base := base) F
  have c__law_next := cal_next (P := P) (w := w) (base := base) F
  have c__law_pick := cal_pick (P := P) (w := w) (base := base) F
  obtain ⟨tA, pA, qA⟩ := law_A (P := P) (w := w) (base := base) (outer := outer) (H0 := H) (E := E) F hr
  refine ⟨_, (pss_cons (ps_set (i := 1) nd rfl (.inl rfl) (pe_lst (pa_cons (pe_slice sl_list (pv 0) po_none (po_some pe_int)) (pa_cons pe_int (pa_cons pe_int pa_nil)))))
    (pss_cons (ps_set (i := 2) nd rfl (.inl rfl) (pe_cal c__law_program hr (by decide) (by rfl) (pa_cons (pv 1) (pa_cons (pe_lst (pa_cons pe_str (pa_cons pe_str pa_nil))) pa_nil))))
    (pss_cons (ps_asg (pv 2) (k_pg_tup (n := 6) rfl (pgs_cons (pg_name (i := 3) nd rfl (.inl rfl)) (pgs_cons (pg_name (i := 4) nd rfl (.inl rfl)) (pgs_cons (pg_name (i := 5) nd rfl (.inr rfl)) (pgs_cons (pg_name (i := 6) nd rfl (.inl rfl)) (pgs_cons (pg_name (i := 7) nd rfl (.inr rfl)) (pgs_cons (pg_name (i := 8) nd rfl (.inr rfl)) pgs_nil))))))))
    (pss_cons (ps_if (PW.pt (pw_and (pt_cmpR (k_neD hr.units) (pv 5) (pe_lst pa_nil) (nomark _)) (pw_and1 (pt_cmpR op_gt (pe_cal c__law_next hr (by decide) (by rfl) (pa_cons (pv 1) (pa_cons pe_int pa_nil))) pe_int (nomark _))))) (pss_cons (ps_asg (pe_tup (pa_cons (pe_cal c__law_pick hr (by decide) (by rfl) (pa_cons (pv 1) (pa_cons (pe_callB (cr_srtDT rfl hr.units) (by rfl) F.f_sorted bt_sorted (pa_cons (pv 7) pa_nil)) pa_nil))) (pa_cons (pe_cal c__law_pick hr (by decide) (by rfl) (pa_cons (pv 1) (pa_cons (pv 5) pa_nil))) pa_nil))) (k_pg_tup (n := 2) rfl (pgs_cons (pg_name (i := 9) nd rfl (.inr rfl)) (pgs_cons (pg_name (i := 10) nd rfl (.inr rfl)) pgs_nil))))
      (pss_cons (ps_asg (pe_dget hu (pv 7) (pv 9) (fun _ _ => rfl)) (k_pg_tup (n := 2) rfl (pgs_cons (pg_name (i := 11) nd rfl (.inl rfl)) (pgs_cons (pg_name (i := 12) nd rfl (.inr rfl)) pgs_nil))))
      (pss_one (ps_dput hu (pv 7) (pv 9) (pe_tup (pa_cons (pv 11) (pa_cons (pe_callTy (k_dictP rfl) (by rfl) F.f_dict bt_dict (pa_cons (pe_lock (pe_lc (own := [("_law_one", 28)]) rfl nd (pi_keys (pv 12)) (blkOk_by (N := n_law) (sc := defScope s_law) (by decide +kernel)) (fun _ _ _ _ _ => (pg_name (i := 28) nd rfl (.inl rfl))) (fun _ _ _ _ _ => pts_nil) (fun _ _ _ _ _ => (pe_tup (pa_cons (pv 28) (pa_cons (pe_ifExp (pt_cmpR op_eq (pv 28) (pe_ix k_ix_list (pv 5) pe_int (fun _ _ => rfl)) (nomark _)) (pe_op k_catA (pe_dget hu (pv 12) (pv 28) (fun _ _ => rfl)) (pe_tup (pa_cons (pe_tup (pa_cons (pv 10) pa_nil)) pa_nil))) (pe_dget hu (pv 12) (pv 28) (fun _ _ => rfl))) pa_nil)))))) pa_nil)) pa_nil))) rfl)))) pss_nil)
    pA)))), ?_⟩
  obtain ⟨a, ns, rfl, ha, only, q⟩ := h
  have nl : NoLk H := fun b o u su e => by
    rcases only b with h | ⟨o2, xs, h⟩
    · rw [h] at e
      cases e
    · rw [h] at e
      cases e
      exact su
  refine ⟨.ref a, rfl, 63, rfl, a, _, rfl, ha, fun l hl => ?_⟩
  obtain ⟨n63, e63⟩ := cut_ints ns none (some 63)
  rw [e63]
  have gl := (Grow.refl (Kp.refl H)).add (u := .lst (n63.map V.int)) hl (.inl True.intro)
  refine ⟨show (3 : Nat) ≤ sizeLine by decide, fun dl hdl => ?_⟩
  have hd0 : H dl = none := gl.h.dom hdl
  have gd := gl.mut (u := .lst [.ref l, .int 0, .int 0]) hd0 (gl.dh.dom hdl) nf_lst
  have cd : Loc dl (.lst [.ref l, .int 0, .int 0]) (upd H l (.lst (n63.map V.int))) (upd (upd H l (.lst (n63.map V.int))) dl (.lst [.ref l, .int 0, .int 0])) := Loc.new gl.dh hdl
  have hs : upd H l (.lst (n63.map V.int)) l = some (.lst (n63.map V.int)) := upd_same
  change tSeq _ _ _ (lwS (some (.ref a)) (some (.ref dl)) none none none none none none none none none none none none none none none none none none none none none none none none none none none none) (upd (upd H l (.lst (n63.map V.int))) dl (.lst [.ref l, .int 0, .int 0]))
  generalize upd (upd H l (.lst (n63.map V.int))) dl (.lst [.ref l, .int 0, .int 0]) = H1 at gd cd ⊢
  generalize upd H l (.lst (n63.map V.int)) = D1 at gl gd cd hs
  have dr : Dr ⟨l, dl, n63⟩ D1 H1 := ⟨hs, 0, Int.le_refl _, cd⟩
  obtain ⟨d, hd⟩ : ∃ d : Dw, d = ⟨l, dl, n63⟩ := ⟨_, rfl⟩
  rw [← hd] at dr
  have edl : dl = d.dl := by rw [hd]
  subst edl
  clear hd
  refine ⟨.ref d.dl, rfl, (ev_lst (ts := [tyS "a", tyS "b"]) (ea_cons ev_c (ea_cons ev_c ea_nil))).use gd.dh fun v1 D2 H2 g2 t1 => ⟨d, D2, H, H, v1, rfl, gd.trans g2, hd0, dr.grow g2, t1, fun vt D3 H3 p T sa k3 g3 r3 pb told => ?_⟩⟩
  obtain ⟨rfl, ⟨v4, v5, v7, hT, t4, t5, t7⟩, ⟨kS, cS, rS⟩, hsa, nsa⟩ := told
  show tSeq _ _ _ (lwS (some (.ref a)) (some (.ref d.dl)) (some (.ref T)) none none none none none none none none none none none none none none none none none none none none none none none none none none none) H3
  refine ⟨.ref T, rfl, ga_6 g3.dh hT ?_⟩
  dsimp only
  show tSeq _ _ _ (lwS (some (.ref a)) (some (.ref d.dl)) (some (.ref T)) (some (.str (txt p.ls))) (some (.int p.n)) (some v4) (some v5) (some (.ref sa)) (some v7) none none none none none none none none none none none none none none none none none none none none none) H3
  have c := pb.c
  have o := c.ok
  refine sq_join (LawJ a d.dl T sa v4 v5 v7 H) ?_ fun rest => ?_
  · rintro σ H4 ⟨p, D4, kS, x9, x10, x11, x12, c, g4, rfl, hT, t4, t5, t7, cS, rS⟩
    obtain ⟨gO, kO⟩ := cS.own g4 hsa (.inr True.intro)
    have tS : (tySteps p).p (.ref sa) (upd D4 sa (.dT kS)) := ⟨sa, kS, rfl, .inl upd_same, KvsAt.up kO.q rS⟩
    generalize upd D4 sa (.dT kS) = D5 at gO kO tS
    have u4 := Ty.up _ kO.q t4
    have u5 := Ty.up _ kO.q t5
    have u7 := Ty.up _ kO.q t7
    exact qA _ D5 H4 p (.ref T) _ _ v4 v5 (.ref sa) v7 _ _ _ _ _ _ _ _ _ _ _ _ _ _ _ _ _ _ _ _ _ _ _ c (nl.up gO.d) gO.dh ⟨T, _, rfl, kO.q.fx (u := .tup _) True.intro hT, .cons rfl (.cons rfl (.cons u4 (.cons u5 (.cons tS (.cons u7 .nil)))))⟩ rfl rfl u4 u5 tS u7 q
  have quiet : ∀ D4 H4, Kp D3 D4 → Grow H H D4 H4 → Loc sa (.dT kS) D4 H4 → LawJ a d.dl T sa v4 v5 v7 H (lwS (some (.ref a)) (some (.ref d.dl)) (some (.ref T)) (some (.str (txt p.ls))) (some (.int p.n)) (some v4) (some v5) (some (.ref sa)) (some v7) none none none none none none none none none none none none none none none none none none none none none) H4 := fun D4 H4 k4 g4 c4 =>
    ⟨p, D4, kS, none, none, none, none, c, g4, rfl, k4.q.fx (u := .tup _) True.intro hT, Ty.up _ k4.q t4, Ty.up _ k4.q t5, Ty.up _ k4.q t7, c4, KvsAt.up k4.q rS⟩
  have shp : SeqAt.shaped (.list (p.regs.map PyData.str)) = true := by rcases pb.regs with h | h | h <;> rw [h] <;> decide +kernel
  have e1 : EvB (tTest (tOp (rNeD K) (tVar 5) (tLst tNil))) (lwS (some (.ref a)) (some (.ref d.dl)) (some (.ref T)) (some (.str (txt p.ls))) (some (.int p.n)) (some v4) (some v5) (some (.ref sa)) (some v7) none none none none none none none none none none none none none none none none none none none none none) D3 (!PyData.eqv (.list (p.regs.map PyData.str)) (.list (([] : List Str).map PyData.str))) := eb_test (ev_op (ev_var (t := tyNames p.regs) (i := 5) rfl t4) (ev_lst (ts := []) ea_nil) (rv_neD (dp_lst fun _ => dp_str) (dp_lst (xs := ([] : List Str)) (f := tyS) fun _ => dp_str) shp (by decide +kernel)))
  refine e1.use g3.dh fun D4 H4 g4 => ?_
  have cS4 := cS.grow (x := .dT kS) True.intro g4
  cases hreg : p.regs with
  | nil =>
    refine iteF ?_
    refine iteF ?_
    exact rest _ _ (quiet D4 H4 g4.d (g3.trans g4) cS4)
  | cons r0 rr =>
    refine iteT ?_
    refine tts_gt (d := d) (m := 3) (i := 1) (by decide) rfl (g3.trans g4) hd0 (r3.grow g4) _ fun b D5 H5 s5 => ?_
    have k45 := g4.d.trans s5.kp
    have cS5 := s5.l sa (.dT kS) nsa True.intro cS4
    cases b with
    | false =>
      refine iteF ?_
      exact rest _ _ (quiet D5 H5 k45 s5.g cS5)
    | true =>
      refine iteT ?_
      have rS5 := KvsAt.up k45.q rS
      have u4 := Ty.up _ k45.q t4
      have hk5 : kS.map (·.1) = (due p).map dkey := by
        rw [rS5.keys, List.map_map]
        rfl
      have dne : 0 < ((due p).map tyBp).length := by
        rw [List.length_map]
        have h0 : (0, p.ls.headD 0) ∈ due p := due_mem.mpr ⟨⟨Int.le_refl _, by have := o.nLe; show (0 : Int) < p.n; omega⟩, by rcases pb.ls with h | h <;> rw [h] <;> simp⟩
        exact List.length_pos_of_mem h0
      have u4r : (tyNames p.regs).p v4 D5 := u4
      refine sqS_asg (evs_tup2 (d := d) (D0 := H) (H0 := H) (σ := lwS (some (.ref a)) (some (.ref d.dl)) (some (.ref T)) (some (.str (txt p.ls))) (some (.int p.n)) (some v4) (some v5) (some (.ref sa)) (some v7) none none none none none none none none none none none none none none none none none none none none none) (t := tyAny ((due p).map tyBp)) (u := tyAny (p.regs.map tyS)) (evs_pickA (i := 1) dne rfl (srt_loc o (i := 7) rfl cS5 s5.g.dh hk5) s5.g hd0 s5.r) (fun D6 H6 s6 => evs_pick (i := 1) (by rw [hreg]; simp) rfl (ev_var (t := tyNames p.regs) (i := 5) rfl (Ty.up _ s6.kp.q u4r)) s6.g hd0 s6.r)) fun vt D7 H7 s7 tt => ?_
      refine ga_2 (t := tyAny ((due p).map tyBp)) (u := tyAny (p.regs.map tyS)) s7.g.dh tt fun v9 v10 t9 t10 => ?_
      obtain ⟨_, m9, t9⟩ := t9
      obtain ⟨y, hy, rfl⟩ := List.mem_map.mp m9
      obtain ⟨_, m10, t10⟩ := t10
      obtain ⟨nm, hnm, rfl⟩ := List.mem_map.mp m10
      have t10 : v10 = .str nm := t10
      subst t10
      have k47 := k45.trans s7.kp
      have cS7 := s7.l sa (.dT kS) nsa True.intro cS5
      have rS7 := KvsAt.up k47.q rS
      dsimp only
      show tSeq _ _ _ (lwS (some (.ref a)) (some (.ref d.dl)) (some (.ref T)) (some (.str (txt p.ls))) (some (.int p.n)) (some v4) (some v5) (some (.ref sa)) (some v7) (some v9) (some (.str nm)) none none none none none none none none none none none none none none none none none none none) H7
      refine sqA_asg (get_locE (i := 7) (j := 9) (k := dkey y) (t := tyStep p.regs (p.goal y.1 y.2, p.row y.1 y.2)) rfl rfl cS7 rS7 s7.g.dh t9 (tys_step hy)) fun vs D8 H8 g8 t8 => ?_
      refine ga_2 (t := tyI (p.goal y.1 y.2)) (u := tyRows p.regs (p.row y.1 y.2)) g8.dh t8 fun v11 v12 t11 t12 => ?_
      have t11 : v11 = .int (p.goal y.1 y.2) := t11
      subst t11
      have cS8 := cS7.grow (x := .dT kS) True.intro g8
      have k48 := k47.trans g8.d
      have gH8 := s7.g.trans g8
      have w4 := Ty.up _ k48.q t4
      have nl8 := nl.up gH8.d
      have t98 := Ty.up _ g8.d.q t9
      have hrn : p.regs.Nodup := by rcases pb.regs with h | h | h <;> rw [h] <;> decide +kernel
      try dsimp only
      show sDPut _ _ _ _ (lwS (some (.ref a)) (some (.ref d.dl)) (some (.ref T)) (some (.str (txt p.ls))) (some (.int p.n)) (some v4) (some v5) (some (.ref sa)) (some v7) (some v9) (some (.str nm)) (some (.int (p.goal y.1 y.2))) (some v12) none none none none none none none none none none none none none none none none none) H8
      have at0 : atI (p.regs.map tyS) 0 = some (tyS r0) := by
        rcases pb.regs with h | h | h
        · rw [h] at hreg
          cases hreg
        · rw [h] at hreg ⊢
          injection hreg with h1 _
          rw [← h1]
          rfl
        · rw [h] at hreg ⊢
          injection hreg with h1 _
          rw [← h1]
          rfl
      have kl : kS.length < 100000 := by
        have h1 := pr_len rS
        have h2 := due_len o
        rw [List.length_map] at h1
        omega
      refine st_dputE (i := 7) (j := 9) (k := dkey y) (t := tyStep p.regs (p.goal y.1 y.2, moreRow p y r0 nm)) rfl rfl cS8 (ev_tup (ts := [tyI (p.goal y.1 y.2), tyRows p.regs (moreRow p y r0 nm)]) (ea_cons (ev_var (i := 11) rfl rfl) (ea_cons (ev_dictD (xs := p.regs) (key := fun r => .inr r) (out := fun r => tyRow (moreRow p y r0 nm r)) (ev_lockK nl8.k (pu_var (i := 12) rfl) t12 fun D9 d9 o9 kv9 kq9 e9 p9 hd9 hv9 => ev_lcm tyS (fun r => tyT [tyS r, tyRow (moreRow p y r0 nm r)]) (by
        have := (evi_keys p9 hd9 hv9).i
        rw [List.map_map] at this
        exact this) (Nat.le_trans o.regsLen (by decide)) fun r hr D10 k10 z hz => lcel rfl (ev_tup (ts := [tyS r, tyRow (moreRow p y r0 nm r)]) (ea_cons (ev_var (i := 28) rfl hz) (ea_cons (by
          have row : Ev (tDGet (tVar 12) (tVar 28)) ((wipe (lwS (some (.ref a)) (some (.ref d.dl)) (some (.ref T)) (some (.str (txt p.ls))) (some (.int p.n)) (some v4) (some v5) (some (.ref sa)) (some v7) (some v9) (some (.str nm)) (some (.int (p.goal y.1 y.2))) (some v12) none none none none none none none none none none none none none none none none none) [28]).set 28 (some z)) D10 (tyRow (p.row y.1 y.2 r)) := ev_dget (k := .inr r) (ev_var (t := tyRows p.regs (p.row y.1 y.2)) (i := 12) rfl (Ty.up _ (kq9.trans k10.q) t12)) (ev_var (i := 28) rfl hz) (has_held (f := fun r => tyRow (p.row y.1 y.2 r)) hr)
          refine ev_if (b := decide (r = r0)) (eb_test (ev_op (ev_var (t := tyS r) (i := 28) rfl hz) (ev_op (ev_var (t := tyNames p.regs) (i := 5) rfl (Ty.up _ (kq9.trans k10.q) w4)) (ev_c (v := .int 0)) (rv_ixL (K := K) (i := 0) (t := tyS r0) at0)) (rv_eqS rfl))) (fun h => ?_) fun h => ?_
          · have e : moreRow p y r0 nm r = p.row y.1 y.2 r ++ [.inr nm] := if_pos (of_decide_eq_true h)
            rw [e]
            have l5 := (o.row y hy r hr).1
            exact ev_is (show tyT ((p.row y.1 y.2 r).map tyItem ++ [.inr nm].map tyItem) = tyRow (p.row y.1 y.2 r ++ [.inr nm]) from congrArg tyT List.map_append.symm) (ev_op row (ev_tup (ts := [tyT [tyS nm]]) (ea_cons (ev_tup (ts := [tyS nm]) (ea_cons (ev_var (i := 10) rfl rfl) ea_nil)) ea_nil)) (rv_catA (by rw [List.length_map]; simp; omega)))
          · have e : moreRow p y r0 nm r = p.row y.1 y.2 r := if_neg (of_decide_eq_false h)
            rw [e]
            exact row) ea_nil)))) (inr_nd hrn)) ea_nil))) t98 gH8.dh kl fun vv D9 H9 g9 tv c9 => ?_
      have k49 := k48.trans g9.d
      have hset := KvsAt.set (key := dkey) (out := fun x => tyStep p.regs (p.goal x.1 x.2, p.row x.1 x.2)) (k := dkey y) (KvsAt.up k49.q rS) ⟨y, hy, rfl⟩ tv
      have em : ((due p).map fun x => (dkey x, if dkey x = dkey y then tyStep p.regs (p.goal y.1 y.2, moreRow p y r0 nm) else tyStep p.regs (p.goal x.1 x.2, p.row x.1 x.2))) = (due p).map fun x => (dkey x, tyStep p.regs ((moreReg p y r0 nm).goal x.1 x.2, (moreReg p y r0 nm).row x.1 x.2)) := List.map_congr_left fun x hx => by
        by_cases c : x = y
        · subst c
          rw [if_pos rfl, addStep_new.1, addStep_new.2]
        · rw [if_neg (fun e => c (dkey_inj _ _ e)), (addStep_old c).1, (addStep_old c).2]
      rw [em] at hset
      exact rest _ _ ⟨moreReg p y r0 nm, D9, _, _, _, _, _, pb.more hy hnm, c9.set (gH8.trans g9) hsa nf_dT, rfl, k49.q.fx (u := .tup _) True.intro hT, Ty.up _ k49.q t4, Ty.up _ k49.q t5, Ty.up _ k49.q t7, c9.put, hset⟩
end
end K02
set_option Elab.async false
set_option linter.all false
set_option maxRecDepth 100000
set_option maxHeartbeats 0
namespace K02
open PySem PySem.Spec PyProof.Rows L2
theorem runX (w : World) : HandSHeadRun.RunEq R (PySem.W.view R.prog [50]) hookX obX 4000 loose w := by
  intro os
  kernel_rfl
end K02
set_option Elab.async false
set_option linter.all false
set_option maxRecDepth 100000
set_option maxHeartbeats 8000000
namespace K02
open PySem PySem.Spec PyProof.Rows L2
theorem factsX {P : Program} {w : World} {K : PySem.W.Frag} {h : Heap} {mg : Str → Option Value} {f : Addr} (X : K.In h) (G : h.Ns mainGlobals mg) (hfa : mg ("law" : Str) = some (.ref f)) (c : He.SaysD fas fns K) (x : exOk K = true) :
    ∃ fd : FuncData, (∀ (s : Shared) (v : Value), BindsTo s fd ⟨[v], []⟩ [("_law_script", v)]) ∧ ∀ base : Heap, K.In base → base.Ns mainGlobals mg → FnOk P w K mg base CX0 7 f fd ["_law_script"] (sp_law K) := by
  have F : Fc K mg := ⟨c, x, h, X, G⟩
  obtain ⟨fd, D⟩ := F.c.def_ 45 (d := d_law) rfl
  have e := hfa.symm.trans F.g_law
  cases e
  have b := FunD.bindsA (ps := ["_law_script"]) D fun _ _ _ _ _ _ us hl => match us, hl with | [_], _ => rfl
  refine ⟨fd, fun s v => b s [v] rfl, fun base _ _ => ?_⟩
  refine FunD.ok D sc_law (fun vs H Q E h => by obtain ⟨a, ns, rfl, _⟩ := h; rfl) fun cdv A outer s H vs Q E hr h => ?_
  obtain ⟨t, h1, h2⟩ := law_hb F _ cdv A outer s H vs Q E hr h
  exact ⟨t, PSs.nox h1, h2⟩
end K02
open PySem PySem.W PySem.Calls PyProof.Rows
theorem PySem.Challenge.cw_passtexts_k02_whole_thrifty_holds : PySem.Challenge.rw_passtexts_k02_whole_thrifty.Holds := by
  w_on; o_law
  refine HandSHeadRun.head_any (r := OpenLaw.row PySem.Challenge.rw_passtexts_k02_whole_thrifty) (q := view (OpenLaw.row PySem.Challenge.rw_passtexts_k02_whole_thrifty).prog [50]) (H := K02.hookX) (ob := K02.obX) (M := 4000) (loose := K02.loose) (d := HandSHeadRun.topDef (OpenLaw.row PySem.Challenge.rw_passtexts_k02_whole_thrifty).prog 50) (kwd := []) K02.obX_eq
    (by kernel_rfl) (fun s => by kernel_rfl) K02.runX (by kernel_rfl) (by kernel_rfl) (by kernel_rfl) (by rfl) (by first | assumption | decide +kernel) (by decide +kernel) ⟨rfl, rfl, rfl, rfl, rfl, by decide +kernel⟩ ?hw ?hc
  case hw => w_witness2
  case hc =>
    refine L2.walk_ofE (l := PySem.Challenge.rw_passtexts_k02_whole_thrifty) (n := 63) (k := 7) (x := "_law_script") (CX := L2.CX0) rfl (by decide) (by kernel_rfl) ⟨rfl, by decide, by decide⟩ ?F (fun _ _ _ _ z => z)
    intro w mg fa h Y G hmg0
    obtain ⟨K, KX, c, x⟩ := Y
    have hmg : mg ("law" : PySem.Str) = some (.ref fa) := by
      have e : (HandSHeadRun.topDef (OpenLaw.row PySem.Challenge.rw_passtexts_k02_whole_thrifty).prog 50).name = ("law" : PySem.Str) := by kernel_rfl
      rw [← e]
      exact hmg0
    obtain ⟨fd, hb, hF⟩ := K02.factsX (P := (PySem.Challenge.rw_passtexts_k02_whole_thrifty).prog) (w := w) KX G hmg c x
    exact ⟨K, fd, K02.sp_law K, KX, hb, fun H a ns _ hO hS => ⟨a, ns, rfl, hS, hO, fun _ => rfl⟩, hF⟩
